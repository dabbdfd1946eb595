import PyProof.Rows.All
import Wide.All
import OpenK.AllK
import Wide.FinOn
import HandS.ForMost
import HandS.ForExc
import HandS.Wide
import HandS.Evl
import HandS.TupAny
import HandS.TupMul
import HandS.NoneIn
import HandS.Zip
import HandS.IsInst
import HandS.Text
import HandS.StrMore
import HandS.Comp
import HandS.Style
import PyProof.StrOps2
import KE.GoesMore
import KE.GoesEnum
import KE.GoesZip
import HandS.ExcCtx
import HandS.ExcOwn
import HandS.ExcInit
import HandS.ExcIs
import HandS.ExcField
import HandS.Replace
import HandS.CallLocal
import HandS.WideBits
import HandS.Conv
import KE.GoesEnumKw
import PyProof.Rows.CallKwBuiltin
import HandS.HotCalls
import HandS.More
import PySem.Challenge.RW_tensloft_k75_whole_caught_three_ways
set_option Elab.async false
set_option linter.all false
set_option maxRecDepth 100000
set_option maxHeartbeats 2000000
namespace Tm
open PySem L2
inductive MV where
  | non | bl (b : Bool) | int (i : Int) | str (x : Str)
  | tup (xs : List MV) | lst (xs : List MV) | own (xs : List MV)
  | raw (v : V) | scr (ns : List Int)
  | fnc (x : Str)
  | obj (C : Str) (fs : List (Str × MV))
  | dct (ks : List Key) (xs : List MV)
  | dow (ks : List Key) (xs : List MV)
  | dot (ks : List (List Key)) (xs : List MV)
instance : Inhabited MV := ⟨.non⟩
abbrev Env := List (Option MV)
structure MX where
  cls : Str
  fs : List (Str × MV)
inductive Res (α : Type) where
  | ok (a : α) | exc (e : MX) (ρ : Env) | stuck
inductive Fl where
  | nx | br | ct | rt (x : MV)
open Evl (Ex ex_rd ex_l ex_t)
theorem _root_.Evl.Ex.back {H H' : Hp} {p : Addr} (e : Ex H H') (h : H' p = none) : H p = none := Evl.fresh_back e h
theorem _root_.Evl.Ex.both {H H' : Hp} {p : Addr} {o : HO} (e : Ex H H') (h : H' p = none) : Ex (upd H p o) (upd H' p o) := fun a u ha => by
  by_cases hp : a = p
  · subst hp; rw [upd_same] at ha ⊢; exact ha
  · rw [upd_ne hp] at ha ⊢; exact e a u ha
theorem _root_.Evl.Ex.updL {H H' : Hp} {p : Addr} {o : HO} (e : Ex H H') (h : H' p = some o) : Ex (upd H p o) H' := fun a u ha => by
  by_cases hp : a = p
  · subst hp; rw [upd_same] at ha; cases ha; exact h
  · rw [upd_ne hp] at ha; exact e a u ha
mutual
def RV (K : PySem.W.Frag) (H : Hp) : MV → V → Prop
  | .non, v => v = .non
  | .bl b, v => v = .bl b
  | .int i, v => v = .int i
  | .str x, v => v = .str x
  | .tup xs, v => ∃ a vs, v = .ref a ∧ SqT K H a vs ∧ RVs K H xs vs
  | .lst xs, v => ∃ a vs, v = .ref a ∧ H a = some (.lst vs) ∧ RVs K H xs vs
  | .own _, _ => False
  | .raw w, v => v = w
  | .scr ns, v => ∃ a, v = .ref a ∧ SqL K H a (ns.map V.int)
  | .fnc x, v => ∃ a, v = .ref a ∧ PySem.W.nsIn K mainGlobals x = some (some (.ref a))
  | .obj _ _, _ => False
  | .dct ks xs, v => ∃ a vs, v = .ref a ∧ H a = some (.dK (ks.zip vs)) ∧ ks.length = xs.length ∧ RVs K H xs vs
  | .dow _ _, _ => False
  | .dot _ _, _ => False
def RVs (K : PySem.W.Frag) (H : Hp) : List MV → List V → Prop
  | [], vs => vs = []
  | x :: xs, vs => ∃ v r, vs = v :: r ∧ RV K H x v ∧ RVs K H xs r
end
mutual
theorem RV.mono {K : PySem.W.Frag} {H H' : Hp} (e : Ex H H') : ∀ (x : MV) (v : V), RV K H x v → RV K H' x v
  | .non, v, h => by unfold RV at h ⊢; exact h
  | .bl b, v, h => by unfold RV at h ⊢; exact h
  | .int i, v, h => by unfold RV at h ⊢; exact h
  | .str x, v, h => by unfold RV at h ⊢; exact h
  | .tup xs, v, h => by
    unfold RV at h ⊢
    obtain ⟨a, vs, e1, e2, e3⟩ := h
    exact ⟨a, vs, e1, ex_t e e2, RVs.mono e xs vs e3⟩
  | .lst xs, v, h => by
    unfold RV at h ⊢
    obtain ⟨a, vs, e1, e2, e3⟩ := h
    exact ⟨a, vs, e1, e _ _ e2, RVs.mono e xs vs e3⟩
  | .own xs, v, h => by unfold RV at h; exact h.elim
  | .raw w, v, h => by unfold RV at h ⊢; exact h
  | .scr ns, v, h => by
    unfold RV at h ⊢
    obtain ⟨a, e1, e2⟩ := h
    exact ⟨a, e1, ex_l e e2⟩
  | .fnc x, v, h => by unfold RV at h ⊢; exact h
  | .obj C fs, v, h => by unfold RV at h; exact h.elim
  | .dct ks xs, v, h => by
    unfold RV at h ⊢
    obtain ⟨a, vs, e1, e2, e3, e4⟩ := h
    exact ⟨a, vs, e1, e _ _ e2, e3, RVs.mono e xs vs e4⟩
  | .dow ks xs, v, h => by unfold RV at h; exact h.elim
  | .dot ks xs, v, h => by unfold RV at h; exact h.elim
theorem RVs.mono {K : PySem.W.Frag} {H H' : Hp} (e : Ex H H') : ∀ (xs : List MV) (vs : List V), RVs K H xs vs → RVs K H' xs vs
  | [], vs, h => by unfold RVs at h ⊢; exact h
  | x :: xs, vs, h => by
    unfold RVs at h ⊢
    obtain ⟨v, r, e1, e2, e3⟩ := h
    exact ⟨v, r, e1, RV.mono e x v e2, RVs.mono e xs r e3⟩
end
section
variable {K : PySem.W.Frag} {H : Hp}
theorem RV.int {i : Int} {v : V} : RV K H (.int i) v ↔ v = .int i := by unfold RV; rfl
theorem RV.bl {i : Bool} {v : V} : RV K H (.bl i) v ↔ v = .bl i := by unfold RV; rfl
theorem RV.str {i : Str} {v : V} : RV K H (.str i) v ↔ v = .str i := by unfold RV; rfl
theorem RV.non {v : V} : RV K H .non v ↔ v = .non := by unfold RV; rfl
theorem RV.raw {w v : V} : RV K H (.raw w) v ↔ v = w := by unfold RV; rfl
theorem RV.tup {xs : List MV} {v : V} : RV K H (.tup xs) v ↔ ∃ a vs, v = .ref a ∧ SqT K H a vs ∧ RVs K H xs vs := by
  constructor <;> intro h <;> (unfold RV at *; exact h)
theorem RV.lst {xs : List MV} {v : V} : RV K H (.lst xs) v ↔ ∃ a vs, v = .ref a ∧ H a = some (.lst vs) ∧ RVs K H xs vs := by
  constructor <;> intro h <;> (unfold RV at *; exact h)
theorem RV.dct {ks : List Key} {xs : List MV} {v : V} : RV K H (.dct ks xs) v ↔ ∃ a vs, v = .ref a ∧ H a = some (.dK (ks.zip vs)) ∧ ks.length = xs.length ∧ RVs K H xs vs := by
  constructor <;> intro h <;> (unfold RV at *; exact h)
theorem RV.scr {ns : List Int} {v : V} : RV K H (.scr ns) v ↔ ∃ a, v = .ref a ∧ SqL K H a (ns.map V.int) := by
  constructor <;> intro h <;> (unfold RV at *; exact h)
theorem RV.fnc {x : Str} {v : V} : RV K H (.fnc x) v ↔ ∃ a, v = .ref a ∧ PySem.W.nsIn K mainGlobals x = some (some (.ref a)) := by
  constructor <;> intro h <;> (unfold RV at *; exact h)
theorem RVs.nil {vs : List V} : RVs K H [] vs ↔ vs = [] := by unfold RVs; rfl
theorem RVs.cons {x : MV} {xs : List MV} {vs : List V} : RVs K H (x :: xs) vs ↔ ∃ v r, vs = v :: r ∧ RV K H x v ∧ RVs K H xs r := by
  rw [RVs]
theorem RVs.length : ∀ {xs : List MV} {vs : List V}, RVs K H xs vs → vs.length = xs.length
  | [], vs, h => by rw [RVs.nil] at h; subst h; rfl
  | x :: xs, vs, h => by
    rw [RVs.cons] at h
    obtain ⟨v, r, rfl, _, h⟩ := h
    simp [RVs.length h]
theorem RVs.get : ∀ {xs : List MV} {vs : List V} {i : Nat} {x : MV}, RVs K H xs vs → xs[i]? = some x → ∃ v, vs[i]? = some v ∧ RV K H x v
  | [], _, i, x, _, e => by simp at e
  | y :: xs, vs, 0, x, h, e => by
    rw [RVs.cons] at h
    obtain ⟨v, r, rfl, h1, _⟩ := h
    simp at e; subst e; exact ⟨v, rfl, h1⟩
  | y :: xs, vs, i + 1, x, h, e => by
    rw [RVs.cons] at h
    obtain ⟨v, r, rfl, _, h⟩ := h
    obtain ⟨u, h1, h2⟩ := RVs.get (i := i) (x := x) h (by simpa using e)
    exact ⟨u, by simpa using h1, h2⟩
theorem RVs.append : ∀ {xs ys : List MV} {vs ws : List V}, RVs K H xs vs → RVs K H ys ws → RVs K H (xs ++ ys) (vs ++ ws)
  | [], ys, vs, ws, h, h2 => by rw [RVs.nil] at h; subst h; exact h2
  | x :: xs, ys, vs, ws, h, h2 => by
    rw [RVs.cons] at h
    obtain ⟨v, r, rfl, h1, h⟩ := h
    show RVs K H (x :: (xs ++ ys)) (v :: (r ++ ws))
    rw [RVs.cons]
    exact ⟨v, r ++ ws, rfl, h1, RVs.append h h2⟩
theorem RVs.take : ∀ {xs : List MV} {vs : List V} (n : Nat), RVs K H xs vs → RVs K H (xs.take n) (vs.take n)
  | _, _, 0, _ => by simp [RVs]
  | [], vs, n + 1, h => by rw [RVs.nil] at h; subst h; simp [RVs]
  | x :: xs, vs, n + 1, h => by
    rw [RVs.cons] at h
    obtain ⟨v, r, rfl, h1, h⟩ := h
    show RVs K H (x :: xs.take n) (v :: r.take n)
    rw [RVs.cons]
    exact ⟨v, _, rfl, h1, RVs.take n h⟩
theorem RVs.drop : ∀ {xs : List MV} {vs : List V} (n : Nat), RVs K H xs vs → RVs K H (xs.drop n) (vs.drop n)
  | _, _, 0, h => h
  | [], vs, n + 1, h => by rw [RVs.nil] at h; subst h; simp [RVs]
  | x :: xs, vs, n + 1, h => by
    rw [RVs.cons] at h
    obtain ⟨v, r, rfl, h1, h⟩ := h
    exact RVs.drop n h
theorem RVs.set : ∀ {xs : List MV} {vs : List V} (i : Nat) {x : MV} {v : V}, RVs K H xs vs → RV K H x v → RVs K H (xs.set i x) (vs.set i v)
  | [], vs, i, x, v, h, _ => by rw [RVs.nil] at h; subst h; simp [RVs]
  | y :: xs, vs, 0, x, v, h, h2 => by
    rw [RVs.cons] at h
    obtain ⟨u, r, rfl, h1, h⟩ := h
    show RVs K H (x :: xs) (v :: r)
    rw [RVs.cons]; exact ⟨v, r, rfl, h2, h⟩
  | y :: xs, vs, i + 1, x, v, h, h2 => by
    rw [RVs.cons] at h
    obtain ⟨u, r, rfl, h1, h⟩ := h
    show RVs K H (y :: xs.set i x) (u :: r.set i v)
    rw [RVs.cons]; exact ⟨u, _, rfl, h1, RVs.set i h h2⟩
theorem RVs.reverse : ∀ {xs : List MV} {vs : List V}, RVs K H xs vs → RVs K H xs.reverse vs.reverse
  | [], vs, h => by rw [RVs.nil] at h; subst h; simp [RVs]
  | x :: xs, vs, h => by
    rw [RVs.cons] at h
    obtain ⟨v, r, rfl, h1, h⟩ := h
    rw [List.reverse_cons, List.reverse_cons]
    refine RVs.append (RVs.reverse h) ?_
    rw [RVs.cons]; exact ⟨v, [], rfl, h1, RVs.nil.mpr rfl⟩
theorem RVs.ints : ∀ {ns : List Int} {vs : List V}, RVs K H (ns.map MV.int) vs ↔ vs = ns.map V.int
  | [], vs => RVs.nil
  | n :: ns, vs => by
    rw [List.map_cons, RVs.cons]
    constructor
    · rintro ⟨v, r, rfl, h1, h2⟩
      rw [RV.int.mp h1, RVs.ints.mp h2]; rfl
    · rintro rfl
      exact ⟨_, _, rfl, RV.int.mpr rfl, RVs.ints.mpr rfl⟩
end
def OF (K : PySem.W.Frag) (Hk H : Hp) : MV → V → List Addr → Prop
  | .own xs, v, A => ∃ p vs, v = .ref p ∧ A = [p] ∧ H p = some (.lst vs) ∧ RVs K Hk xs vs
  | .dow ks xs, v, A => ∃ p vs, v = .ref p ∧ A = [p] ∧ H p = some (.dK (ks.zip vs)) ∧ ks.length = xs.length ∧ RVs K Hk xs vs
  | .dot ks xs, v, A => ∃ p vs, v = .ref p ∧ A = [p] ∧ H p = some (.dT (ks.zip vs)) ∧ ks.length = xs.length ∧ RVs K Hk xs vs
  | x, v, A => A = [] ∧ RV K Hk x v
def OFs (K : PySem.W.Frag) (Hk H : Hp) : List (Str × MV) → List (Str × V) → List Addr → Prop
  | [], vs, A => vs = [] ∧ A = []
  | (n, x) :: xs, vs, A => ∃ v r B C, vs = (n, v) :: r ∧ A = B ++ C ∧ OF K Hk H x v B ∧ OFs K Hk H xs r C
def OV (K : PySem.W.Frag) (Hk H : Hp) : MV → V → List Addr → Prop
  | .obj C fs, v, A => ∃ p CA dx vfs B, v = .ref p ∧ A = p :: B ∧ PySem.W.nsIn K mainGlobals C = some (some (.ref CA)) ∧ H p = some (.ins CA dx vfs) ∧ OFs K Hk H fs vfs B ∧ (p :: B).Nodup
  | x, v, A => OF K Hk H x v A
def MV.per : MV → Bool
  | .own _ => false
  | .obj _ _ => false
  | .dow _ _ => false
  | .dot _ _ => false
  | _ => true
theorem OF.per {K : PySem.W.Frag} {Hk H : Hp} {x : MV} {v : V} {A : List Addr} (h : x.per = true) : OF K Hk H x v A ↔ A = [] ∧ RV K Hk x v := by
  cases x <;> first | (simp [MV.per] at h; done) | (unfold OF; rfl)
theorem OV.per {K : PySem.W.Frag} {Hk H : Hp} {x : MV} {v : V} {A : List Addr} (h : x.per = true) : OV K Hk H x v A ↔ A = [] ∧ RV K Hk x v := by
  cases x <;> first | (simp [MV.per] at h; done) | (unfold OV OF; rfl)
theorem OV.own {K : PySem.W.Frag} {Hk H : Hp} {xs : List MV} {v : V} {A : List Addr} : OV K Hk H (.own xs) v A ↔ ∃ p vs, v = .ref p ∧ A = [p] ∧ H p = some (.lst vs) ∧ RVs K Hk xs vs := by
  unfold OV OF; rfl
theorem RV.isper {K : PySem.W.Frag} {H : Hp} {x : MV} {v : V} (h : RV K H x v) : x.per = true := by
  cases x <;> first | rfl | (unfold RV at h; exact h.elim)
theorem RV.ov {K : PySem.W.Frag} {Hk H : Hp} {x : MV} {v : V} (h : RV K Hk x v) : OV K Hk H x v [] := (OV.per h.isper).mpr ⟨rfl, h⟩
theorem OF.move {K : PySem.W.Frag} {Hk Hk' H H' : Hp} {x : MV} {v : V} {A : List Addr} (h : OF K Hk H x v A) (e : Ex Hk Hk') (k : ∀ a ∈ A, ∀ o, H a = some o → H' a = some o) : OF K Hk' H' x v A := by
  cases x with
  | own xs =>
    unfold OF at h ⊢
    obtain ⟨p, vs, e1, e2, e3, e4⟩ := h
    exact ⟨p, vs, e1, e2, k p (by rw [e2]; simp) _ e3, e4.mono e⟩
  | dow ks xs =>
    unfold OF at h ⊢
    obtain ⟨p, vs, e1, e2, e3, e5, e4⟩ := h
    exact ⟨p, vs, e1, e2, k p (by rw [e2]; simp) _ e3, e5, e4.mono e⟩
  | dot ks xs =>
    unfold OF at h ⊢
    obtain ⟨p, vs, e1, e2, e3, e5, e4⟩ := h
    exact ⟨p, vs, e1, e2, k p (by rw [e2]; simp) _ e3, e5, e4.mono e⟩
  | obj C fs => exact (show False by unfold OF at h; unfold RV at h; exact h.2).elim
  | _ =>
    unfold OF at h ⊢
    exact ⟨h.1, RV.mono e _ _ h.2⟩
theorem OFs.move {K : PySem.W.Frag} {Hk Hk' H H' : Hp} : ∀ {fs : List (Str × MV)} {vs : List (Str × V)} {A : List Addr}, OFs K Hk H fs vs A → Ex Hk Hk' → (∀ a ∈ A, ∀ o, H a = some o → H' a = some o) → OFs K Hk' H' fs vs A
  | [], _, _, h, _, _ => h
  | (n, x) :: fs, vs, A, h, e, k => by
    obtain ⟨v, r, B, C, e1, e2, h1, h2⟩ := h
    refine ⟨v, r, B, C, e1, e2, h1.move e fun a ha => k a (by rw [e2]; exact List.mem_append_left _ ha), OFs.move h2 e fun a ha => k a (by rw [e2]; exact List.mem_append_right _ ha)⟩
theorem OV.move {K : PySem.W.Frag} {Hk Hk' H H' : Hp} {x : MV} {v : V} {A : List Addr} (h : OV K Hk H x v A) (e : Ex Hk Hk') (k : ∀ a ∈ A, ∀ o, H a = some o → H' a = some o) : OV K Hk' H' x v A := by
  cases x with
  | obj C fs =>
    unfold OV at h ⊢
    obtain ⟨p, CA, dx, vfs, B, e1, e2, e0, e3, e4, e5⟩ := h
    exact ⟨p, CA, dx, vfs, B, e1, e2, e0, k p (by rw [e2]; simp) _ e3, OFs.move e4 e fun a ha => k a (by rw [e2]; exact List.mem_cons_of_mem _ ha), e5⟩
  | _ => (unfold OV at h ⊢; exact OF.move h e k)
theorem OF.there {K : PySem.W.Frag} {Hk H : Hp} {x : MV} {v : V} {A : List Addr} (h : OF K Hk H x v A) : ∀ a ∈ A, ∃ o, H a = some o := by
  cases x with
  | own xs =>
    unfold OF at h
    obtain ⟨p, vs, e1, e2, e3, e4⟩ := h
    intro a ha
    rw [e2] at ha
    simp at ha
    subst ha
    exact ⟨_, e3⟩
  | dow ks xs =>
    unfold OF at h
    obtain ⟨p, vs, e1, e2, e3, e5, e4⟩ := h
    intro a ha
    rw [e2] at ha
    simp at ha
    subst ha
    exact ⟨_, e3⟩
  | dot ks xs =>
    unfold OF at h
    obtain ⟨p, vs, e1, e2, e3, e5, e4⟩ := h
    intro a ha
    rw [e2] at ha
    simp at ha
    subst ha
    exact ⟨_, e3⟩
  | _ =>
    unfold OF at h
    intro a ha
    rw [h.1] at ha
    cases ha
theorem OFs.there {K : PySem.W.Frag} {Hk H : Hp} : ∀ {fs : List (Str × MV)} {vs : List (Str × V)} {A : List Addr}, OFs K Hk H fs vs A → ∀ a ∈ A, ∃ o, H a = some o
  | [], _, _, h, a, ha => by rw [h.2] at ha; cases ha
  | (n, x) :: fs, vs, A, h, a, ha => by
    obtain ⟨v, r, B, C, e1, e2, h1, h2⟩ := h
    rw [e2] at ha
    rcases List.mem_append.mp ha with ha | ha
    · exact h1.there a ha
    · exact OFs.there h2 a ha
theorem OV.there {K : PySem.W.Frag} {Hk H : Hp} {x : MV} {v : V} {A : List Addr} (h : OV K Hk H x v A) : ∀ a ∈ A, ∃ o, H a = some o := by
  cases x with
  | obj C fs =>
    unfold OV at h
    obtain ⟨p, CA, dx, vfs, B, e1, e2, e0, e3, e4, e5⟩ := h
    intro a ha
    rw [e2] at ha
    rcases List.mem_cons.mp ha with rfl | ha
    · exact ⟨_, e3⟩
    · exact OFs.there e4 a ha
  | _ => (unfold OV at h; exact OF.there h)
def put (ow : Nat → List Addr) (i : Nat) (A : List Addr) : Nat → List Addr := fun j => if j = i then A else ow j
theorem put_same {ow : Nat → List Addr} {i : Nat} {A : List Addr} : put ow i A i = A := if_pos rfl
theorem put_ne {ow : Nat → List Addr} {i j : Nat} {A : List Addr} (h : j ≠ i) : put ow i A j = ow j := if_neg h
structure SL (K : PySem.W.Frag) (F Hk H : Hp) (ow : Nat → List Addr) (σ : St) (ρ : Env) : Prop where
  s : ∀ (i : Nat) x, ρ[i]? = some (some x) → ∃ v, σ[i]? = some (some v) ∧ OV K Hk H x v (ow i)
  f : ∀ i a, a ∈ ow i → Hk a = none ∧ F a = none ∧ ∃ o, H a = some o
  w : ∀ i, ow i ≠ [] → i < ρ.length
  d : ∀ i j a, i ≠ j → a ∈ ow i → a ∉ ow j
structure RS (K : PySem.W.Frag) (F Hk H : Hp) (bp : List (Nat × Addr)) (σ : St) (ρ : Env) : Prop where
  len : σ.length = ρ.length
  ex : Ex Hk H
  fr : Ex F H
  frk : ∀ a o, F a = some o → Hk a = none
  ow : ∃ ow, SL K F Hk H ow σ ρ
  bor : ∀ q ∈ bp, σ[q.1]? = some (some (.ref q.2))
theorem set_get {α : Type} {l : List α} {i j : Nat} {x y : α} (h : (l.set i x)[j]? = some y) : (j = i ∧ y = x) ∨ (j ≠ i ∧ l[j]? = some y) := by
  by_cases e : i = j
  · subst e
    rw [List.getElem?_set] at h
    simp at h
    exact .inl ⟨rfl, h.2.symm⟩
  · rw [List.getElem?_set_ne e] at h
    exact .inr ⟨fun q => e q.symm, h⟩
theorem app_get {α : Type} {l : List α} {j : Nat} {x y : α} (h : (l ++ [x])[j]? = some y) : (j = l.length ∧ y = x) ∨ (j < l.length ∧ l[j]? = some y) := by
  by_cases e : j < l.length
  · rw [List.getElem?_append_left e] at h; exact .inr ⟨e, h⟩
  · rw [List.getElem?_append_right (Nat.le_of_not_lt e)] at h
    have := (List.getElem?_eq_some_iff.mp h).1
    simp at this
    have ej : j = l.length := by omega
    subst ej
    simp at h
    exact .inl ⟨rfl, h.symm⟩
theorem lt_get {α : Type} {l : List α} {j : Nat} {y : α} (h : l[j]? = some y) : j < l.length := (List.getElem?_eq_some_iff.mp h).1
section
variable {K : PySem.W.Frag} {F Hk Hk' H H' : Hp} {bp : List (Nat × Addr)} {σ : St} {ρ : Env} {ow : Nat → List Addr}
theorem SL.out (S : SL K F Hk H ow σ ρ) {i : Nat} (h : ρ.length ≤ i) : ow i = [] := by
  cases e : ow i with
  | nil => rfl
  | cons a r => exact absurd (S.w i (by rw [e]; simp)) (by omega)
theorem SL.fresh (S : SL K F Hk H ow σ ρ) {p : Addr} (h : H p = none) (i : Nat) : p ∉ ow i := fun m => by
  obtain ⟨_, _, o, e⟩ := S.f i p m
  rw [h] at e; cases e
theorem SL.step (S : SL K F Hk H ow σ ρ) (e : Ex Hk Hk') (k : ∀ i, ∀ a ∈ ow i, H' a = H a ∧ Hk' a = none) : SL K F Hk' H' ow σ ρ := by
  refine ⟨fun i x h => ?_, fun i a h => ?_, S.w, S.d⟩
  · obtain ⟨v, ev, o⟩ := S.s i x h
    exact ⟨v, ev, o.move e fun a ha u hu => by rw [(k i a ha).1]; exact hu⟩
  · obtain ⟨f1, f2, o, f3⟩ := S.f i a h
    exact ⟨(k i a h).2, f2, o, by rw [(k i a h).1]; exact f3⟩
theorem SL.set (S : SL K F Hk H ow σ ρ) (hl : σ.length = ρ.length) {i : Nat} {x : MV} {v : V} (hi : i < ρ.length) (r : RV K Hk x v) : SL K F Hk H (put ow i []) (σ.set i (some v)) (ρ.set i (some x)) := by
  refine ⟨fun j y h => ?_, fun j a h => ?_, fun j h => ?_, fun j k a hjk h => ?_⟩
  · rcases set_get h with ⟨rfl, e⟩ | ⟨ne, e⟩
    · cases e
      refine ⟨v, by rw [List.getElem?_set_self (by rw [hl]; exact hi)], ?_⟩
      rw [put_same]; exact r.ov
    · obtain ⟨u, e1, e2⟩ := S.s j y e
      exact ⟨u, by rw [List.getElem?_set_ne (Ne.symm ne)]; exact e1, by rw [put_ne ne]; exact e2⟩
  · by_cases e : j = i
    · rw [e, put_same] at h; cases h
    · rw [put_ne e] at h; exact S.f j a h
  · by_cases e : j = i
    · rw [e, put_same] at h; exact (h rfl).elim
    · rw [put_ne e] at h; rw [List.length_set]; exact S.w j h
  · by_cases e : j = i
    · rw [e, put_same] at h; cases h
    · rw [put_ne e] at h
      by_cases e2 : k = i
      · rw [e2, put_same]; simp
      · rw [put_ne e2]; exact S.d j k a hjk h
theorem SL.push (S : SL K F Hk H ow σ ρ) (hl : σ.length = ρ.length) {x : MV} {v : V} {A : List Addr} (o : OV K Hk H x v A) (hf : ∀ a ∈ A, Hk a = none ∧ F a = none) (hd : ∀ i, ∀ a ∈ A, a ∉ ow i) :
    SL K F Hk H (put ow ρ.length A) (σ ++ [some v]) (ρ ++ [some x]) := by
  refine ⟨fun j y h => ?_, fun j a h => ?_, fun j h => ?_, fun j k a hjk h => ?_⟩
  · rcases app_get h with ⟨rfl, e⟩ | ⟨lt, e⟩
    · cases e
      refine ⟨v, by rw [← hl]; simp, ?_⟩
      rw [put_same]; exact o
    · obtain ⟨u, e1, e2⟩ := S.s j y e
      exact ⟨u, by rw [List.getElem?_append_left (by rw [hl]; exact lt)]; exact e1, by rw [put_ne (Nat.ne_of_lt lt)]; exact e2⟩
  · by_cases e : j = ρ.length
    · rw [e, put_same] at h; exact ⟨(hf a h).1, (hf a h).2, o.there a h⟩
    · rw [put_ne e] at h; exact S.f j a h
  · by_cases e : j = ρ.length
    · rw [e]; simp
    · rw [put_ne e] at h; have := S.w j h; simp; omega
  · by_cases e : j = ρ.length
    · rw [e, put_same] at h
      rw [put_ne (fun z => hjk (e.trans z.symm))]
      exact hd k a h
    · rw [put_ne e] at h
      by_cases e2 : k = ρ.length
      · rw [e2, put_same]; exact fun z => hd j a z h
      · rw [put_ne e2]; exact S.d j k a hjk h
theorem SL.take (S : SL K F Hk H ow (σ ++ [some v]) (ρ ++ [some x])) (hl : σ.length = ρ.length) {i : Nat} (hi : i < ρ.length) : SL K F Hk H (put (put ow i (ow ρ.length)) ρ.length []) (σ.set i (some v)) (ρ.set i (some x)) := by
  have ne : i ≠ ρ.length := Nat.ne_of_lt hi
  obtain ⟨u, hu, ou⟩ := S.s ρ.length x (by simp)
  have ev : u = v := by rw [← hl] at hu; simpa using hu.symm
  subst ev
  have lt : ∀ j a, a ∈ put (put ow i (ow ρ.length)) ρ.length [] j → (j = i ∧ a ∈ ow ρ.length) ∨ (j ≠ i ∧ j < ρ.length ∧ a ∈ ow j) := fun j a h => by
    by_cases e : j = ρ.length
    · rw [e, put_same] at h; cases h
    · rw [put_ne e] at h
      by_cases e2 : j = i
      · rw [e2, put_same] at h; exact .inl ⟨e2, h⟩
      · rw [put_ne e2] at h
        have := S.w j (by intro z; rw [z] at h; cases h)
        simp at this
        exact .inr ⟨e2, by omega, h⟩
  refine ⟨fun j y h => ?_, fun j a h => ?_, fun j h => ?_, fun j k a hjk h => ?_⟩
  · rcases set_get h with ⟨rfl, e⟩ | ⟨ne2, e⟩
    · cases e
      refine ⟨u, by rw [List.getElem?_set_self (by rw [hl]; exact hi)], ?_⟩
      rw [put_ne ne, put_same]; exact ou
    · have lj := lt_get e
      obtain ⟨w, e1, e2⟩ := S.s j y (by rw [List.getElem?_append_left lj]; exact e)
      rw [List.getElem?_append_left (by rw [hl]; exact lj)] at e1
      exact ⟨w, by rw [List.getElem?_set_ne (Ne.symm ne2)]; exact e1, by rw [put_ne (Nat.ne_of_lt lj), put_ne ne2]; exact e2⟩
  · rcases lt j a h with ⟨_, m⟩ | ⟨_, _, m⟩
    · exact S.f _ a m
    · exact S.f _ a m
  · rw [List.length_set]
    cases e : put (put ow i (ow ρ.length)) ρ.length [] j with
    | nil => exact (h e).elim
    | cons a r =>
      rcases lt j a (by rw [e]; simp) with ⟨e, _⟩ | ⟨_, l, _⟩
      · rw [e]; exact hi
      · exact l
  · intro hk
    rcases lt j a h with ⟨e1, m⟩ | ⟨e1, l1, m⟩ <;> rcases lt k a hk with ⟨e2, m2⟩ | ⟨e2, l2, m2⟩
    · exact hjk (e1.trans e2.symm)
    · exact S.d ρ.length k a (by omega) m m2
    · exact S.d j ρ.length a (by omega) m m2
    · exact S.d j k a hjk m m2
theorem SL.drop (S : SL K F Hk H ow (σ ++ [y]) (ρ ++ [x])) (hl : σ.length = ρ.length) : SL K F Hk H (put ow ρ.length []) σ ρ := by
  refine ⟨fun j y h => ?_, fun j a h => ?_, fun j h => ?_, fun j k a hjk h => ?_⟩
  · have lj := lt_get h
    obtain ⟨w, e1, e2⟩ := S.s j y (by rw [List.getElem?_append_left lj]; exact h)
    rw [List.getElem?_append_left (by rw [hl]; exact lj)] at e1
    exact ⟨w, e1, by rw [put_ne (Nat.ne_of_lt lj)]; exact e2⟩
  · by_cases e : j = ρ.length
    · rw [e, put_same] at h; cases h
    · rw [put_ne e] at h; exact S.f j a h
  · by_cases e : j = ρ.length
    · rw [e, put_same] at h; exact (h rfl).elim
    · rw [put_ne e] at h; have := S.w j h; simp at this; omega
  · by_cases e : j = ρ.length
    · rw [e, put_same] at h; cases h
    · rw [put_ne e] at h
      by_cases e2 : k = ρ.length
      · rw [e2, put_same]; simp
      · rw [put_ne e2]; exact S.d j k a hjk h
theorem RS.get (S : RS K F Hk H bp σ ρ) {i : Nat} {x : MV} (h : ρ[i]? = some (some x)) (hp : x.per = true) : ∃ v, σ[i]? = some (some v) ∧ RV K Hk x v := by
  obtain ⟨ow, s⟩ := S.ow
  obtain ⟨v, e, o⟩ := s.s i x h
  exact ⟨v, e, ((OV.per hp).mp o).2⟩
theorem RS.getOwn (S : RS K F Hk H bp σ ρ) {i : Nat} {xs : List MV} (h : ρ[i]? = some (some (.own xs))) : ∃ p vs, σ[i]? = some (some (.ref p)) ∧ H p = some (.lst vs) ∧ RVs K Hk xs vs ∧ Hk p = none ∧ F p = none := by
  obtain ⟨ow, s⟩ := S.ow
  obtain ⟨v, e, o⟩ := s.s i _ h
  obtain ⟨p, vs, e1, e2, e3, e4⟩ := OV.own.mp o
  have m : p ∈ ow i := by rw [e2]; simp
  exact ⟨p, vs, by rw [e, e1], e3, e4, (s.f i p m).1, (s.f i p m).2.1⟩
theorem RS.step (S : RS K F Hk H bp σ ρ) (e : Ex Hk Hk') (e' : Ex Hk' H') (k : ∀ a o, Hk a = none → H a = some o → H' a = some o ∧ Hk' a = none) : RS K F Hk' H' bp σ ρ := by
  obtain ⟨ow, s⟩ := S.ow
  refine ⟨S.len, e', fun a o h => (k a o (S.frk a o h) (S.fr a o h)).1, fun a o h => (k a o (S.frk a o h) (S.fr a o h)).2, ⟨ow, s.step e fun i a h => ?_⟩, S.bor⟩
  obtain ⟨f1, _, o, f2⟩ := s.f i a h
  exact ⟨((k a o f1 f2).1).trans f2.symm, (k a o f1 f2).2⟩
theorem RS.new (S : RS K F Hk H bp σ ρ) {p : Addr} {o : HO} (h : H p = none) : RS K F (upd Hk p o) (upd H p o) bp σ ρ :=
  S.step (Ex.new (S.ex.back h)) (S.ex.both h) fun a u hk ha => by
    have ne := ne_of_none ha h
    rw [upd_ne ne, upd_ne ne]
    exact ⟨ha, hk⟩
theorem RS.more (S : RS K F Hk H bp σ ρ) {p : Addr} {o : HO} (h : H p = none) : RS K F Hk (upd H p o) bp σ ρ :=
  S.step (Ex.refl _) (S.ex.mut (S.ex.back h)) fun a u hk ha => by
    rw [upd_ne (ne_of_none ha h)]
    exact ⟨ha, hk⟩
theorem RS.set (S : RS K F Hk H bp σ ρ) {i : Nat} {x : MV} {v : V} (hi : i < ρ.length) (r : RV K Hk x v) (hb : ∀ q ∈ bp, q.1 ≠ i) : RS K F Hk H bp (σ.set i (some v)) (ρ.set i (some x)) := by
  obtain ⟨ow, s⟩ := S.ow
  exact ⟨by simp [S.len], S.ex, S.fr, S.frk, ⟨_, s.set S.len hi r⟩, fun q hq => by rw [List.getElem?_set_ne (Ne.symm (hb q hq))]; exact S.bor q hq⟩
theorem RS.bor_app (S : RS K F Hk H bp σ ρ) (y : Option V) : ∀ q ∈ bp, (σ ++ [y])[q.1]? = some (some (.ref q.2)) := fun q hq => by
  have q1 := S.bor q hq
  rw [List.getElem?_append_left (lt_get q1)]; exact q1
theorem RS.push (S : RS K F Hk H bp σ ρ) {x : MV} {v : V} (r : RV K Hk x v) : RS K F Hk H bp (σ ++ [some v]) (ρ ++ [some x]) := by
  obtain ⟨ow, s⟩ := S.ow
  exact ⟨by simp [S.len], S.ex, S.fr, S.frk, ⟨_, s.push S.len r.ov (fun _ h => nomatch h) (fun _ _ h => nomatch h)⟩, S.bor_app _⟩
theorem RS.pushOwn (S : RS K F Hk H bp σ ρ) {p : Addr} {xs : List MV} {vs : List V} (h : H p = none) (r : RVs K Hk xs vs) : RS K F Hk (upd H p (.lst vs)) bp (σ ++ [some (.ref p)]) (ρ ++ [some (.own xs)]) := by
  obtain ⟨ow, s⟩ := S.ow
  have S' := S.more (o := .lst vs) h
  have s' : SL K F Hk (upd H p (.lst vs)) ow σ ρ := s.step (Ex.refl _) fun i a ha => by
    obtain ⟨f1, f2, o, f3⟩ := s.f i a ha
    exact ⟨upd_ne (ne_of_none f3 h), f1⟩
  have fp : F p = none := by
    cases e : F p with
    | none => rfl
    | some o => have := S.fr p o e; rw [h] at this; cases this
  refine ⟨by simp [S.len], S'.ex, S'.fr, S'.frk, ⟨_, s'.push S.len (A := [p]) (OV.own.mpr ⟨p, vs, rfl, rfl, upd_same, r⟩) (fun a ha => ?_) (fun i a ha => ?_)⟩, S.bor_app _⟩
  · simp at ha; subst ha; exact ⟨S.ex.back h, fp⟩
  · simp at ha; subst ha; exact s.fresh h i
theorem RS.take {v : V} {x : MV} (S : RS K F Hk H bp (σ ++ [some v]) (ρ ++ [some x])) {i : Nat} (hi : i < ρ.length) (hb : ∀ q ∈ bp, q.1 ≠ i ∧ q.1 < ρ.length) : RS K F Hk H bp (σ.set i (some v)) (ρ.set i (some x)) := by
  obtain ⟨ow, s⟩ := S.ow
  have hl : σ.length = ρ.length := by have := S.len; simpa using this
  refine ⟨by simp [hl], S.ex, S.fr, S.frk, ⟨_, s.take hl hi⟩, fun q hq => ?_⟩
  have q1 := S.bor q hq
  rw [List.getElem?_append_left (by rw [hl]; exact (hb q hq).2)] at q1
  rw [List.getElem?_set_ne (Ne.symm (hb q hq).1)]; exact q1
theorem RS.drop {y : Option V} {x : Option MV} (S : RS K F Hk H bp (σ ++ [y]) (ρ ++ [x])) (hb : ∀ q ∈ bp, q.1 < ρ.length) : RS K F Hk H bp σ ρ := by
  obtain ⟨ow, s⟩ := S.ow
  have hl : σ.length = ρ.length := by have := S.len; simpa using this
  refine ⟨hl, S.ex, S.fr, S.frk, ⟨_, s.drop hl⟩, fun q hq => ?_⟩
  have q1 := S.bor q hq
  rw [List.getElem?_append_left (by rw [hl]; exact hb q hq)] at q1
  exact q1
theorem RS.freeze (S : RS K F Hk H bp σ ρ) {i : Nat} {xs : List MV} (h : ρ[i]? = some (some (.own xs))) :
    ∃ p vs, σ[i]? = some (some (.ref p)) ∧ Ex Hk (upd Hk p (.lst vs)) ∧ RV K (upd Hk p (.lst vs)) (.lst xs) (.ref p) ∧ RS K F (upd Hk p (.lst vs)) H bp σ (ρ.set i (some (.lst xs))) := by
  obtain ⟨ow, s⟩ := S.ow
  obtain ⟨v, ev, o⟩ := s.s i _ h
  obtain ⟨p, vs, e1, e2, e3, e4⟩ := OV.own.mp o
  have m : p ∈ ow i := by rw [e2]; simp
  obtain ⟨f1, f2, _⟩ := s.f i p m
  have ex : Ex Hk (upd Hk p (.lst vs)) := Ex.new f1
  have rv : RV K (upd Hk p (.lst vs)) (.lst xs) (.ref p) := RV.lst.mpr ⟨p, vs, rfl, upd_same, e4.mono ex⟩
  have li := lt_get h
  refine ⟨p, vs, by rw [ev, e1], ex, rv, by simp [S.len], S.ex.updL e3, S.fr, fun a u ha => ?_, ⟨put ow i [], ?_⟩, S.bor⟩
  · rw [upd_ne (ne_of_none ha f2)]; exact S.frk a u ha
  · refine ⟨fun j y hj => ?_, fun j a hj => ?_, fun j hj => ?_, fun j k a hjk hj => ?_⟩
    · rcases set_get hj with ⟨rfl, e⟩ | ⟨ne, e⟩
      · cases e
        exact ⟨v, ev, by rw [put_same, e1]; exact rv.ov⟩
      · obtain ⟨u, u1, u2⟩ := s.s j y e
        exact ⟨u, u1, by rw [put_ne ne]; exact u2.move ex fun _ _ _ z => z⟩
    · by_cases e : j = i
      · rw [e, put_same] at hj; cases hj
      · rw [put_ne e] at hj
        obtain ⟨g1, g2⟩ := s.f j a hj
        refine ⟨?_, g2⟩
        rw [upd_ne (fun z => s.d j i a e hj (by rw [z]; exact m))]; exact g1
    · by_cases e : j = i
      · rw [e, put_same] at hj; exact (hj rfl).elim
      · rw [put_ne e] at hj; rw [List.length_set]; exact s.w j hj
    · by_cases e : j = i
      · rw [e, put_same] at hj; cases hj
      · rw [put_ne e] at hj
        by_cases e2 : k = i
        · rw [e2, put_same]; simp
        · rw [put_ne e2]; exact s.d j k a hjk hj
theorem RS.change (S : RS K F Hk H bp σ ρ) {i : Nat} {xs ys : List MV} (h : ρ[i]? = some (some (.own xs))) :
    ∃ p vs, σ[i]? = some (some (.ref p)) ∧ H p = some (.lst vs) ∧ RVs K Hk xs vs ∧ ∀ ws, RVs K Hk ys ws → RS K F Hk (upd H p (.lst ws)) bp σ (ρ.set i (some (.own ys))) := by
  obtain ⟨ow, s⟩ := S.ow
  obtain ⟨v, ev, o⟩ := s.s i _ h
  obtain ⟨p, vs, e1, e2, e3, e4⟩ := OV.own.mp o
  have m : p ∈ ow i := by rw [e2]; simp
  obtain ⟨f1, f2, _⟩ := s.f i p m
  refine ⟨p, vs, by rw [ev, e1], e3, e4, fun ws r => ⟨by simp [S.len], S.ex.mut f1, S.fr.mut f2, S.frk, ⟨ow, ?_⟩, S.bor⟩⟩
  refine ⟨fun j y hj => ?_, fun j a hj => ?_, fun j hj => by rw [List.length_set]; exact s.w j hj, s.d⟩
  · rcases set_get hj with ⟨rfl, e⟩ | ⟨ne, e⟩
    · cases e
      exact ⟨v, ev, OV.own.mpr ⟨p, ws, e1, e2, upd_same, r⟩⟩
    · obtain ⟨u, u1, u2⟩ := s.s j y e
      exact ⟨u, u1, u2.move (Ex.refl _) fun a ha o ho => by rw [upd_ne (fun z => s.d j i a ne ha (by rw [z]; exact m))]; exact ho⟩
  · obtain ⟨g1, g2, o, g3⟩ := s.f j a hj
    by_cases e : a = p
    · subst e; exact ⟨g1, g2, _, upd_same⟩
    · exact ⟨g1, g2, o, by rw [upd_ne e]; exact g3⟩
end
end Tm
set_option Elab.async false
set_option linter.all false
set_option maxRecDepth 100000
set_option maxHeartbeats 2000000
namespace Tm
open PySem L2
open Evl (Ex ex_rd ex_l ex_t)
structure Ct where
  K : PySem.W.Frag
  mg : Str → Option Value
  W : WX
  bs : List Nat
  J : Hp → List (Nat × Addr) → Prop
  Jm : ∀ F F1 bp, Ex F F1 → J F bp → J F1 bp
def XFs (K : PySem.W.Frag) (H : Hp) : List (Str × MV) → List (Str × V) → Prop
  | [], vs => vs = []
  | (n, x) :: xs, vs => ∃ v r, vs = (n, v) :: r ∧ RV K H x v ∧ XFs K H xs r
def ExR (K : PySem.W.Frag) (mg : Str → Option Value) (H : Hp) (e : MX) (cls : Value) (d : Option Addr) : Prop :=
  ∃ C, mg e.cls = some (.ref C) ∧ cls = .ref C ∧ ((e.fs = [] ∧ d = none) ∨ ∃ dx vfs, d = some dx ∧ H dx = some (.xd vfs) ∧ XFs K H e.fs vfs)
theorem XFs.mono {K : PySem.W.Frag} {H H' : Hp} (e : Ex H H') : ∀ {xs : List (Str × MV)} {vs : List (Str × V)}, XFs K H xs vs → XFs K H' xs vs
  | [], _, h => h
  | (n, x) :: xs, vs, h => by
    obtain ⟨v, r, e1, e2, e3⟩ := h
    exact ⟨v, r, e1, RV.mono e _ _ e2, XFs.mono e e3⟩
theorem ExR.mono {K : PySem.W.Frag} {mg : Str → Option Value} {H H' : Hp} {e : MX} {cls : Value} {d : Option Addr} (x : Ex H H') (h : ExR K mg H e cls d) : ExR K mg H' e cls d := by
  obtain ⟨C, h1, h2, h3⟩ := h
  refine ⟨C, h1, h2, ?_⟩
  rcases h3 with h3 | ⟨dx, vfs, a, b, c⟩
  · exact .inl h3
  · exact .inr ⟨dx, vfs, a, x _ _ b, c.mono x⟩
abbrev ME := Env → Res (MV × Env)
abbrev MT := Env → Res (Bool × Env)
abbrev MA := Env → Res (List MV × Env)
abbrev MS := Env → Res (Fl × Env)
def Wish (c : Ct) (F Hk : Hp) (bp : List (Nat × Addr)) (σ : St) (e : MX) (ρ : Env) : Prop :=
  ∀ Hk' H' cls d, Ex Hk Hk' → RS c.K F Hk' H' bp σ ρ → ExR c.K c.mg Hk' e cls d → c.W cls d σ H'
def okE (c : Ct) (F Hk : Hp) (bp : List (Nat × Addr)) (σ : St) (Q : VK) : Res (MV × Env) → Prop
  | .ok (x, ρ') => ∀ Hk' H' v, Ex Hk Hk' → RS c.K F Hk' H' bp σ ρ' → RV c.K Hk' x v → Q v H'
  | .exc e ρ' => Wish c F Hk bp σ e ρ'
  | .stuck => False
def okO (c : Ct) (F Hk : Hp) (bp : List (Nat × Addr)) (σ : St) (Q : VK) : Res (MV × Env) → Prop
  | .ok (x, ρ') => ∀ Hk' H' v, Ex Hk Hk' → RS c.K F Hk' H' bp (σ ++ [some v]) (ρ' ++ [some x]) → Q v H'
  | .exc e ρ' => Wish c F Hk bp σ e ρ'
  | .stuck => False
def okT (c : Ct) (F Hk : Hp) (bp : List (Nat × Addr)) (σ : St) (Q : Bool → Hp → Prop) : Res (Bool × Env) → Prop
  | .ok (x, ρ') => ∀ Hk' H', Ex Hk Hk' → RS c.K F Hk' H' bp σ ρ' → Q x H'
  | .exc e ρ' => Wish c F Hk bp σ e ρ'
  | .stuck => False
def okA (c : Ct) (F Hk : Hp) (bp : List (Nat × Addr)) (σ : St) (Q : List V → Hp → Prop) : Res (List MV × Env) → Prop
  | .ok (xs, ρ') => ∀ Hk' H' vs, Ex Hk Hk' → RS c.K F Hk' H' bp σ ρ' → RVs c.K Hk' xs vs → Q vs H'
  | .exc e ρ' => Wish c F Hk bp σ e ρ'
  | .stuck => False
def okS (c : Ct) (F Hk : Hp) (bp : List (Nat × Addr)) (D : Ends) : Res (Fl × Env) → Prop
  | .ok (.nx, ρ') => ∀ Hk' H' σ', Ex Hk Hk' → RS c.K F Hk' H' bp σ' ρ' → D.nx σ' H'
  | .ok (.br, ρ') => ∀ Hk' H' σ', Ex Hk Hk' → RS c.K F Hk' H' bp σ' ρ' → D.bk σ' H'
  | .ok (.ct, ρ') => ∀ Hk' H' σ', Ex Hk Hk' → RS c.K F Hk' H' bp σ' ρ' → D.ct σ' H'
  | .ok (.rt x, ρ') => ∀ Hk' H' σ' v, Ex Hk Hk' → (∀ q ∈ bp, q.1 < σ'.length) → RS c.K F Hk' H' bp (σ' ++ [some v]) (ρ' ++ [some x]) → D.rt v H'
  | .exc e ρ' => ∀ Hk' H' σ' cls d, Ex Hk Hk' → RS c.K F Hk' H' bp σ' ρ' → ExR c.K c.mg Hk' e cls d → c.W cls d σ' H'
  | .stuck => False
def At (c : Ct) (F Hk H : Hp) (bp : List (Nat × Addr)) (σ : St) (ρ : Env) : Prop := RS c.K F Hk H bp σ ρ ∧ bp.map (·.1) = c.bs ∧ c.J F bp
def rdE (c : Ct) (m : ME) : TE := fun σ H Q => ∃ F Hk bp ρ, At c F Hk H bp σ ρ ∧ okE c F Hk bp σ Q (m ρ)
def rdO (c : Ct) (m : ME) : TE := fun σ H Q => ∃ F Hk bp ρ, At c F Hk H bp σ ρ ∧ okO c F Hk bp σ Q (m ρ)
def rdT (c : Ct) (m : MT) : TT := fun σ H Q => ∃ F Hk bp ρ, At c F Hk H bp σ ρ ∧ okT c F Hk bp σ Q (m ρ)
def rdA (c : Ct) (m : MA) : TA := fun σ H Q => ∃ F Hk bp ρ, At c F Hk H bp σ ρ ∧ okA c F Hk bp σ Q (m ρ)
def rdS (c : Ct) (m : MS) : TS := fun D σ H => ∃ F Hk bp ρ, At c F Hk H bp σ ρ ∧ okS c F Hk bp D (m ρ)
section
variable {c : Ct} {F Hk Hk' H H' : Hp} {bp : List (Nat × Addr)} {σ : St} {ρ : Env}
theorem Wish.mono {e : MX} (x : Ex Hk Hk') (h : Wish c F Hk bp σ e ρ) : Wish c F Hk' bp σ e ρ := fun Hk2 H2 cls d x2 => h Hk2 H2 cls d (x.trans x2)
theorem okE.mono {Q : VK} {r : Res (MV × Env)} (x : Ex Hk Hk') (h : okE c F Hk bp σ Q r) : okE c F Hk' bp σ Q r := by
  cases r with
  | ok a => exact fun Hk2 H2 v x2 => h Hk2 H2 v (x.trans x2)
  | exc e ρ => exact Wish.mono x h
  | stuck => exact h
theorem okO.mono {Q : VK} {r : Res (MV × Env)} (x : Ex Hk Hk') (h : okO c F Hk bp σ Q r) : okO c F Hk' bp σ Q r := by
  cases r with
  | ok a => exact fun Hk2 H2 v x2 => h Hk2 H2 v (x.trans x2)
  | exc e ρ => exact Wish.mono x h
  | stuck => exact h
theorem okT.mono {Q : Bool → Hp → Prop} {r : Res (Bool × Env)} (x : Ex Hk Hk') (h : okT c F Hk bp σ Q r) : okT c F Hk' bp σ Q r := by
  cases r with
  | ok a => exact fun Hk2 H2 x2 => h Hk2 H2 (x.trans x2)
  | exc e ρ => exact Wish.mono x h
  | stuck => exact h
theorem okA.mono {Q : List V → Hp → Prop} {r : Res (List MV × Env)} (x : Ex Hk Hk') (h : okA c F Hk bp σ Q r) : okA c F Hk' bp σ Q r := by
  cases r with
  | ok a => exact fun Hk2 H2 v x2 => h Hk2 H2 v (x.trans x2)
  | exc e ρ => exact Wish.mono x h
  | stuck => exact h
theorem okS.mono {D : Ends} {r : Res (Fl × Env)} (x : Ex Hk Hk') (h : okS c F Hk bp D r) : okS c F Hk' bp D r := by
  cases r with
  | ok a =>
    obtain ⟨f, ρ'⟩ := a
    cases f with
    | nx => exact fun Hk2 H2 σ' x2 => h Hk2 H2 σ' (x.trans x2)
    | br => exact fun Hk2 H2 σ' x2 => h Hk2 H2 σ' (x.trans x2)
    | ct => exact fun Hk2 H2 σ' x2 => h Hk2 H2 σ' (x.trans x2)
    | rt y => exact fun Hk2 H2 σ' v x2 => h Hk2 H2 σ' v (x.trans x2)
  | exc e ρ' => exact fun Hk2 H2 σ' cls d x2 => h Hk2 H2 σ' cls d (x.trans x2)
  | stuck => exact h
def Res.bind {α β : Type} (r : Res (α × Env)) (f : α → Env → Res (β × Env)) : Res (β × Env) :=
  match r with
  | .ok (x, ρ) => f x ρ
  | .exc e ρ => .exc e ρ
  | .stuck => .stuck
end
theorem PEw {X : Cx} {e : Expr} {t t' : TE} (h : PE X e t) (w : ∀ σ H Q, t' σ H Q → t σ H Q) : PE X e t' := ⟨fun pins s σ H Q I q => h.run pins s σ H Q I (w σ H Q q)⟩
theorem PTw {X : Cx} {e : Expr} {t t' : TT} (h : PT X e t) (w : ∀ σ H Q, t' σ H Q → t σ H Q) : PT X e t' := ⟨fun pins s σ H Q I q => h.run pins s σ H Q I (w σ H Q q)⟩
theorem PWw {X : Cx} {e : Expr} {t t' : TT} (h : PW X e t) (w : ∀ σ H Q, t' σ H Q → t σ H Q) : PW X e t' := ⟨fun wh pins s σ H Q I q => h.run wh pins s σ H Q I (w σ H Q q)⟩
theorem PAw {X : Cx} {e : List Expr} {t t' : TA} (h : PA X e t) (w : ∀ σ H Q, t' σ H Q → t σ H Q) : PA X e t' := ⟨fun pos pins s σ H Q I q => h.run pos pins s σ H Q I (w σ H Q q)⟩
theorem PSw {X : Cx} {e : Stmt} {t t' : TS} (h : PS X e t) (w : ∀ D σ H, t' D σ H → t D σ H) : PS X e t' := ⟨fun pins s σ H D I q => h.run pins s σ H D I (w D σ H q)⟩
theorem PSsw {X : Cx} {e : List Stmt} {t t' : TS} (h : PSs X e t) (w : ∀ D σ H, t' D σ H → t D σ H) : PSs X e t' := ⟨fun pins s σ H D I q => h.run pins s σ H D I (w D σ H q)⟩
section
variable {X : Cx} {c : Ct}
def mVar (i : Nat) : ME := fun ρ => match ρ[i]? with
  | some (some (.own xs)) => .ok (.lst xs, ρ.set i (some (.lst xs)))
  | some (some (.obj _ _)) => .stuck
  | some (some (.dow _ _)) => .stuck
  | some (some (.dot _ _)) => .stuck
  | some (some x) => .ok (x, ρ)
  | _ => .stuck
def mC (x : MV) : ME := fun ρ => .ok (x, ρ)
theorem rd_var {i : Nat} {σ : St} {H : Hp} {Q : VK} (h : rdE c (mVar i) σ H Q) : tVar i σ H Q := by
  obtain ⟨F, Hk, bp, ρ, ⟨S, _⟩, h⟩ := h
  have pl : ∀ x : MV, x.per = true → ρ[i]? = some (some x) → (∀ Hk' H' v, Ex Hk Hk' → RS c.K F Hk' H' bp σ ρ → RV c.K Hk' x v → Q v H') → tVar i σ H Q := fun x px e q => by
    obtain ⟨v, ev, r⟩ := S.get e px
    exact ⟨v, ev, q Hk H v (Ex.refl _) S r⟩
  unfold mVar at h
  split at h
  · rename_i xs e
    obtain ⟨p, vs, e1, ex, r, S'⟩ := S.freeze e
    exact ⟨_, e1, h _ _ _ ex S' r⟩
  · exact h.elim
  · exact h.elim
  · exact h.elim
  · rename_i x n1 n2 n3 n4 e
    refine pl x ?_ e h
    cases x <;> first | rfl | (exfalso; first | exact n1 _ rfl | exact n2 _ _ rfl | exact n3 _ _ rfl | exact n4 _ _ rfl)
  · exact h.elim
theorem me_var {i : Nat} {x : Str} {pos : Pos} (hN : X.N[i]? = some x) (hv : Vis X.env.scope x) (hd : (x == ("__debug__" : Str)) = false := by decide) (hcd : (x == ("__classdict__" : Str)) = false := by decide) : PE X (.Name x pos) (rdE c (mVar i)) :=
  PEw (pe_var hN hv hd hcd) fun _ _ _ h => rd_var h
theorem rd_c {x : MV} {v : V} (r : ∀ H, RV c.K H x v) {σ : St} {H : Hp} {Q : VK} (h : rdE c (mC x) σ H Q) : tC v σ H Q := by
  obtain ⟨F, Hk, bp, ρ, ⟨S, _⟩, h⟩ := h
  exact h Hk H v (Ex.refl _) S (r _)
theorem me_int {i j pos} : PE X (.Constant (.int i) j pos) (rdE c (mC (.int i))) := PEw pe_int fun _ _ _ h => rd_c (fun _ => RV.int.mpr rfl) h
theorem me_bl {b j pos} : PE X (.Constant (.bool b) j pos) (rdE c (mC (.bl b))) := PEw pe_bl fun _ _ _ h => rd_c (fun _ => RV.bl.mpr rfl) h
theorem me_non {j pos} : PE X (.Constant .none j pos) (rdE c (mC .non)) := PEw pe_non fun _ _ _ h => rd_c (fun _ => RV.non.mpr rfl) h
theorem me_str {x j pos} : PE X (.Constant (.str x) j pos) (rdE c (mC (.str x))) := PEw pe_str fun _ _ _ h => rd_c (fun _ => RV.str.mpr rfl) h
def mOp (f : MV → MV → Option MV) (a b : ME) : ME := fun ρ => (a ρ).bind fun x ρ1 => (b ρ1).bind fun y ρ2 => match f x y with | some z => .ok (z, ρ2) | none => .stuck
def OpS (K : PySem.W.Frag) (f : MV → MV → Option MV) (r : R2) : Prop := ∀ (x y z : MV) (v w : V) (Hk H : Hp) (Q : VK), f x y = some z → Ex Hk H → RV K Hk x v → RV K Hk y w → (∀ u, RV K Hk z u → Q u H) →
  (∀ p o, H p = none → RV K (upd Hk p o) z (.ref p) → Q (.ref p) (upd H p o)) → r v w H Q
theorem rd_op {f : MV → MV → Option MV} {r : R2} (o : OpS c.K f r) {a b : ME} {σ : St} {H : Hp} {Q : VK} (h : rdE c (mOp f a b) σ H Q) : tOp r (rdE c a) (rdE c b) σ H Q := by
  obtain ⟨F, Hk, bp, ρ, ⟨S, eb⟩, h⟩ := h
  refine ⟨F, Hk, bp, ρ, ⟨S, eb⟩, ?_⟩
  unfold mOp at h
  cases ea : a ρ with
  | stuck => rw [ea] at h; exact h.elim
  | exc e ρ' => rw [ea] at h; exact h
  | ok p =>
    obtain ⟨x, ρ1⟩ := p
    rw [ea] at h
    intro Hk1 H1 v x1 S1 r1
    refine ⟨F, Hk1, bp, ρ1, ⟨S1, eb⟩, ?_⟩
    have h : okE c F Hk bp σ Q ((b ρ1).bind fun y ρ2 => match f x y with | some z => .ok (z, ρ2) | none => .stuck) := h
    cases e2 : b ρ1 with
    | stuck => rw [e2] at h; exact h.elim
    | exc e ρ' => rw [e2] at h; exact Wish.mono x1 h
    | ok p =>
      obtain ⟨y, ρ2⟩ := p
      rw [e2] at h
      intro Hk2 H2 w x2 S2 r2
      have h : okE c F Hk bp σ Q (match f x y with | some z => .ok (z, ρ2) | none => .stuck) := h
      cases ez : f x y with
      | none => rw [ez] at h; exact h.elim
      | some z =>
        rw [ez] at h
        refine o x y z v w Hk2 H2 Q ez S2.ex (RV.mono x2 _ _ r1) r2 (fun u ru => h Hk2 H2 u (x1.trans x2) S2 ru) fun p ob hp ru => ?_
        exact h _ _ _ ((x1.trans x2).trans (Ex.new (S2.ex.back hp))) (S2.new hp) ru
theorem me_op {op : Operator} {f : MV → MV → Option MV} {r : R2} {a b : Expr} {ma mb : ME} {pos : Pos} (ho : OpR X (binaryOp op) r) (o : OpS c.K f r) (ha : PE X a (rdE c ma)) (hb : PE X b (rdE c mb)) : PE X (.BinOp a op b pos) (rdE c (mOp f ma mb)) :=
  PEw (pe_op ho ha hb) fun _ _ _ h => rd_op o h
theorem me_cmp {op : CmpOp} {f : MV → MV → Option MV} {r : R2} {a b : Expr} {ma mb : ME} {pos : Pos} (ho : OpR X (compareOp op) r) (o : OpS c.K f r) (ha : PE X a (rdE c ma)) (hb : PE X b (rdE c mb)) (hm : behindInMarks op b = false) : PE X (.Compare a [op] [b] pos) (rdE c (mOp f ma mb)) :=
  PEw (pe_cmpR ho ha hb hm) fun _ _ _ h => rd_op o h
end
end Tm
set_option Elab.async false
set_option linter.all false
set_option maxRecDepth 100000
set_option maxHeartbeats 2000000
namespace Tm
open PySem L2
open Evl (Ex ex_rd ex_l ex_t)
def szOk (n : Nat) : Bool := decide (n ≤ sizeLine)
def fAdd : MV → MV → Option MV
  | .int i, .int j => some (.int (i + j))
  | .int i, .bl b => some (.int (i + PyProof.Rows.b2i b))
  | .str a, .str b => if szOk (a.length + b.length) then some (.str (a ++ b)) else none
  | .lst a, .lst b => if szOk (a.length + b.length) then some (.lst (a ++ b)) else none
  | .tup a, .tup b => if szOk (a.length + b.length) then some (.tup (a ++ b)) else none
  | _, _ => none
def fSub : MV → MV → Option MV
  | .int i, .int j => some (.int (i - j))
  | _, _ => none
def mulOk (i j : Int) : Bool := (decide (-(2 ^ 64) < i) && decide (i < 2 ^ 64)) || (decide (-(2 ^ 64) < j) && decide (j < 2 ^ 64)) || decide (i.natAbs.log2 + j.natAbs.log2 < 1000000)
instance (i j : Int) : Decidable (CMulW i j) := inferInstanceAs (Decidable (i.natAbs.log2 + j.natAbs.log2 < 1000000))
def repS (a : Str) (k : Int) : Str := ⟨(List.replicate k.toNat a.cps.toList).flatten.toArray⟩
def fMul : MV → MV → Option MV
  | .int i, .int j => if mulOk i j then some (.int (i * j)) else none
  | .tup a, .int k => if decide (-(2 ^ 63) ≤ k) && decide (k < 2 ^ 63) && (decide (k = 1) || a.isEmpty || (decide (2 ≤ k) && decide (k ≤ 1000) && decide (a.length ≤ 1000))) then some (.tup (List.replicate k.toNat a).flatten) else none
  | .str a, .int k => if decide (-(2 ^ 63) ≤ k) && decide (k < 2 ^ 63) && szOk (a.length * k.toNat) then some (.str (repS a k)) else none
  | .lst a, .int k => if decide (-(2 ^ 63) ≤ k) && decide (k < 2 ^ 63) && szOk (a.length * k.toNat) then some (.lst (List.replicate k.toNat a).flatten) else none
  | _, _ => none
def divOk (j : Int) : Bool := (decide (j ≠ 0) && decide (j.natAbs < 1073741824)) || (decide (0 < j) && decide (j.natAbs.log2 < 9000))
def fDiv : MV → MV → Option MV
  | .int i, .int j => if divOk j then some (.int (i.fdiv j)) else none
  | _, _ => none
def fMod : MV → MV → Option MV
  | .int i, .int j => if decide (j ≠ 0) then some (.int (i.fmod j)) else none
  | _, _ => none
def fPow : MV → MV → Option MV
  | .int i, .int j => if decide (0 ≤ j) && decide (j ≤ 1000000) && decide (i.natAbs < 2 ^ 64) then some (.int (i ^ j.toNat)) else none
  | _, _ => none
def fAnd : MV → MV → Option MV
  | .int i, .int j => some (.int (Builtin.bitAnd i j))
  | _, _ => none
def fOr : MV → MV → Option MV
  | .int i, .int j => some (.int (Builtin.bitOr i j))
  | _, _ => none
def fLt : MV → MV → Option MV
  | .int i, .int j => some (.bl (decide (i < j)))
  | _, _ => none
def fLe : MV → MV → Option MV
  | .int i, .int j => some (.bl (decide (i ≤ j)))
  | _, _ => none
def fGt : MV → MV → Option MV
  | .int i, .int j => some (.bl (decide (j < i)))
  | _, _ => none
def fGe : MV → MV → Option MV
  | .int i, .int j => some (.bl (decide (j ≤ i)))
  | _, _ => none
def MV.isN : MV → Bool
  | .non => true
  | .raw w => decide (w = .non)
  | _ => false
def fIsN : MV → MV → Option MV
  | x, .non => some (.bl x.isN)
  | _, _ => none
def fNotN : MV → MV → Option MV
  | x, .non => some (.bl (!x.isN))
  | _, _ => none
def scalM : MV → MV → Bool
  | .non, .non => true | .non, .int _ => true | .int _, .non => true | .non, .bl _ => true | .bl _, .non => true | .non, .str _ => true | .str _, .non => true
  | .int _, .int _ => true | .bl _, .bl _ => true | .str _, .str _ => true
  | .int _, .str _ => true | .str _, .int _ => true | .bl _, .str _ => true | .str _, .bl _ => true
  | _, _ => false
def sameM : MV → MV → Bool
  | .non, .non => true
  | .int i, .int j => decide (i = j)
  | .bl i, .bl j => decide (i = j)
  | .str i, .str j => decide (i = j)
  | _, _ => false
mutual
def toD : MV → Option PyData
  | .non => some .none
  | .bl b => some (.bool b)
  | .int i => some (.int i)
  | .str x => some (.str x)
  | .tup xs => (toDs xs).map .tuple
  | .lst xs => (toDs xs).map .list
  | _ => none
def toDs : List MV → Option (List PyData)
  | [] => some []
  | x :: xs => match toD x, toDs xs with
    | some d, some ds => some (d :: ds)
    | _, _ => none
end
def eqM (x y : MV) : Option Bool :=
  if scalM x y then some (sameM x y) else
  match toD x, toD y with
  | some d, some e => if SeqAt.shaped d && SeqAt.shaped e then some (PyData.eqv d e) else none
  | _, _ => none
def fEq (x y : MV) : Option MV := (eqM x y).map .bl
def fNe (x y : MV) : Option MV := (eqM x y).map fun b => .bl (!b)
section
variable {K : PySem.W.Frag}
def rAddM (K : PySem.W.Frag) : R2 := fun x y H Q => (rI0 fun i j => .int (i + j)) x y H Q ∨ (∃ i k, x = .int i ∧ y = .bl k ∧ Q (.int (i + PyProof.Rows.b2i k)) H) ∨ (∃ i j, x = .str i ∧ y = .str j ∧ i.length + j.length ≤ sizeLine ∧ Q (.str (i ++ j)) H) ∨ rCat x y H Q ∨ rCatA K x y H Q
theorem op_addM {X : Cx} : OpR X (binaryOp .Add) (rAddM X.K) := OpR.or op_add (OpR.or op_add_ib (OpR.or op_add_str (OpR.or op_cat op_catA)))
theorem szOk_iff {n : Nat} : szOk n = true ↔ n ≤ sizeLine := by unfold szOk; simp
theorem os_add : OpS K fAdd (rAddM K) := by
  intro x y z v w Hk H Q e ex r1 r2 q qn
  unfold fAdd at e
  split at e
  · cases e
    exact .inl ⟨_, _, RV.int.mp r1, RV.int.mp r2, q _ (RV.int.mpr rfl)⟩
  · cases e
    exact .inr (.inl ⟨_, _, RV.int.mp r1, RV.bl.mp r2, q _ (RV.int.mpr rfl)⟩)
  · split at e
    · rename_i a b h
      cases e
      exact .inr (.inr (.inl ⟨_, _, RV.str.mp r1, RV.str.mp r2, szOk_iff.mp h, q _ (RV.str.mpr rfl)⟩))
    · cases e
  · split at e
    · rename_i a b h
      cases e
      obtain ⟨p1, vs, rfl, h1, s1⟩ := RV.lst.mp r1
      obtain ⟨p2, ws, rfl, h2, s2⟩ := RV.lst.mp r2
      refine .inr (.inr (.inr (.inl ⟨p1, p2, vs, ws, rfl, rfl, ex _ _ h1, ex _ _ h2, ?_, fun p hp => qn p _ hp ?_⟩)))
      · rw [s1.length, s2.length]; exact szOk_iff.mp h
      · have z := Ex.new (o := .lst (vs ++ ws)) (ex.back hp)
        exact RV.lst.mpr ⟨p, _, rfl, upd_same, (s1.append s2).mono z⟩
    · cases e
  · split at e
    · rename_i a b h
      cases e
      obtain ⟨p1, vs, rfl, h1, s1⟩ := RV.tup.mp r1
      obtain ⟨p2, ws, rfl, h2, s2⟩ := RV.tup.mp r2
      refine .inr (.inr (.inr (.inr ⟨p1, p2, vs, ws, rfl, rfl, ex_t ex h1, ex_t ex h2, ?_, fun e0 => ?_, fun e0 e1 => ?_, fun e0 e1 p hp => qn p _ hp ?_⟩)))
      · rw [s1.length, s2.length]; exact szOk_iff.mp h
      · have z := s1.append s2
        rw [e0, List.nil_append] at z
        exact q _ (RV.tup.mpr ⟨p2, ws, rfl, h2, z⟩)
      · have z := s1.append s2
        rw [e1, List.append_nil] at z
        exact q _ (RV.tup.mpr ⟨p1, vs, rfl, h1, z⟩)
      · have z := Ex.new (o := .tup (vs ++ ws)) (ex.back hp)
        exact RV.tup.mpr ⟨p, _, rfl, SqT.of upd_same, (s1.append s2).mono z⟩
    · cases e
  · cases e
theorem os_sub : OpS K fSub (rI0 fun i j => .int (i - j)) := by
  intro x y z v w Hk H Q e ex r1 r2 q qn
  unfold fSub at e
  split at e
  · cases e; exact ⟨_, _, RV.int.mp r1, RV.int.mp r2, q _ (RV.int.mpr rfl)⟩
  · cases e
open PySem.Spec PyProof.Rows in
theorem tuple_mulSame (l : Addr) (items : Array Value) (n : Nat) (dd : Option Addr) (sl : Array (Option Value)) (x : Int) (u : Tok) (c0 : (decide (x < -(2 ^ 63)) || decide (x ≥ 2 ^ 63)) = false) (c1 : (items.isEmpty || x == 1) = true) :
    Meets (Builtin.«tuple.__mul__» ⟨[.ref l, .int x u], []⟩) (fun _ R s => s.heap.get? l = some { cls := .type "tuple", dict := dd, data := .seq items n, slots := sl } ∧ R (.ok (.ret (Value.ref l))) s) :=
  .of_wp fun prog w A R s h => by
    obtain ⟨hp, g, d, tk, os⟩ := s
    obtain ⟨hl, h⟩ := h
    have f1 := AutoSeq1.idx_int
    wp_walk using wpAny_loadPart' hl
    repeat (first
      | (refine wpAny_ite_false (decide_eq_false (by rw [c0]; exact Bool.false_ne_true)) ?_; wp_walk using wpAny_loadPart' hl)
      | (refine wpAny_ite_true (decide_eq_true c1) ?_; wp_walk using wpAny_loadPart' hl))
    exact ⟨_, rfl, h⟩
def rRepTS (K : PySem.W.Frag) : R2 := fun x y H Q => ∃ l k xs, x = .ref l ∧ y = .int k ∧ SqT K H l xs ∧ (k = 1 ∨ xs = []) ∧ -(2 ^ 63) ≤ k ∧ k < 2 ^ 63 ∧ Q (.ref l) H
open PySem.Spec PyProof.Rows in
theorem op_repTS {X : Cx} : OpR X (binaryOp .Mult) (rRepTS X.K) := by
  intro pins s σ H x y v u Q I rx ry h
  obtain ⟨l, k, xs, rfl, rfl, hT, hs, h1, h2, q⟩ := h
  cases rx
  obtain ⟨t, rfl⟩ := ry
  obtain ⟨its, r, ⟨⟨cls, dd, data, sl⟩, ho, hc, n, hd⟩, _⟩ := I.tuple hT
  simp only at hc hd
  subst hc hd
  have hle : its.length = xs.length := r.length.symm
  have c0 : (decide (k < -(2 ^ 63)) || decide (k ≥ 2 ^ 63)) = false := by
    rw [decide_eq_false (by omega), decide_eq_false (by omega)] <;> rfl
  have c1 : (its.toArray.isEmpty || k == 1) = true := by
    rw [Bool.or_eq_true]
    rcases hs with rfl | rfl
    · exact .inr rfl
    · have : its = [] := List.length_eq_zero_iff.mp hle
      subst this
      exact .inl rfl
  exact wpAny_binaryOp_repeat_ref (T := "tuple") (U := "int") (by decide) ⟨_, ho, rfl⟩ (fun s' => typeIs_int s' k t) noFill_tuple_mul F.fills_int_mul F.slot_int_rmul repeat_tuple F.slot_int_index.lookup
    (call_meets F.slot_int_rmul (typeIs_int s k t) F.entry_int_rmul (F.args_int_rmul_2 _ _) (int_rmul_tuple k t l its.toArray n dd sl)
      ⟨ho, rfl, ⟨_, ho, rfl⟩, call_meets F.slot_tuple_mul ⟨_, ho, rfl⟩ F.entry_tuple_mul (F.args_tuple_mul_2 _ _) (tuple_mulSame l its.toArray n dd sl k t c0 c1) ⟨ho, ⟨.ref l, H, I, rfl, q⟩⟩⟩)
def rRepS : R2 := fun x y H Q => ∃ a k, x = .str a ∧ y = .int k ∧ -(2 ^ 63) ≤ k ∧ k < 2 ^ 63 ∧ a.length * k.toNat ≤ sizeLine ∧ Q (.str (repS a k)) H
theorem rep_foldl (l : Array Nat) : ∀ (n : Nat) (acc : Array Nat), (List.replicate n l).foldl (· ++ ·) acc = (acc.toList ++ (List.replicate n l.toList).flatten).toArray
  | 0, acc => by simp
  | n + 1, acc => by
    rw [List.replicate_succ, List.foldl_cons, rep_foldl l n, List.replicate_succ, List.flatten_cons]
    simp
theorem op_repS {X : Cx} : OpR X (binaryOp .Mult) rRepS := by
  intro pins s σ H x y v u Q I rx ry h
  obtain ⟨a, k, rfl, rfl, h1, h2, hz, q⟩ := h
  obtain ⟨t, rfl⟩ := rx
  obtain ⟨t', rfl⟩ := ry
  have sz : sizeLine = 16777216 := rfl
  refine PySem.P.mul_str ?_ ?_ ?_ ?_
  · rw [decide_eq_false (by omega), decide_eq_false (by omega)]; rfl
  · intro h3 h4 h5
    have hk : 1 < k := by
      have : (k == 1) = false := by cases e : (k == 1) <;> simp [e] at h4 ⊢
      have := beq_eq_false_iff_ne.mp this
      omega
    have e1 : ((a.length : Int) * k) ≤ 16777216 := by
      rw [sz] at hz
      have : ((a.length * k.toNat : Nat) : Int) ≤ 16777216 := by omega
      rw [Int.natCast_mul, Int.toNat_of_nonneg (by omega)] at this
      exact this
    have e2 : (a.length : Int) ≤ (2 ^ 63 - 1) / k := by
      refine (Int.le_ediv_iff_mul_le (by omega)).mpr ?_
      omega
    omega
  · intro h3 h4
    unfold Builtin.Str.tooLong
    exact decide_eq_false (by omega)
  · split
    · rename_i h3
      refine ⟨by decide, .str (repS a k), H, I.tok _, ⟨s.toks, ?_⟩, q⟩
      have : k.toNat = 0 := by omega
      unfold repS
      rw [this]; rfl
    · split
      · rename_i h3 h4
        refine ⟨.str (repS a k), H, I, ⟨t, ?_⟩, q⟩
        have : repS a k = a := by
          unfold repS
          rw [Bool.or_eq_true] at h4
          rcases h4 with h4 | h4
          · have : k = 1 := by simpa using h4
            subst this
            show (⟨([a.cps.toList].flatten).toArray⟩ : Str) = a
            simp
          · have e0 : a.cps.toList = [] := by
              have : a.length = 0 := by simpa using h4
              exact List.length_eq_zero_iff.mp (by rw [Array.length_toList]; exact this)
            rw [e0]
            have : ∀ n : Nat, (List.replicate n ([] : List Nat)).flatten = [] := fun n => by simp
            rw [this]
            cases a with
            | mk cps =>
              simp only at e0
              rw [← e0]
        rw [this]
      · rename_i h3 h4
        have e1 : (⟨(List.replicate k.toNat a.cps).foldl (· ++ ·) #[]⟩ : Str) = repS a k := by
          unfold repS
          rw [rep_foldl]
          rfl
        rw [e1]
        refine ⟨?_, .str (repS a k), H, I.tok _, ⟨s.toks, rfl⟩, q⟩
        show (List.replicate k.toNat a.cps.toList).flatten.toArray.size ≤ sizeLine
        rw [List.size_toArray, PyProof.Rows.lm_len_rep_flat, Nat.mul_comm]
        exact hz
def rMulM (K : PySem.W.Frag) : R2 := fun x y H Q => (rI CMul fun i j => .int (i * j)) x y H Q ∨ (rI CMulW fun i j => .int (i * j)) x y H Q ∨ rRep x y H Q ∨ rRepS x y H Q ∨ rRepTS K x y H Q ∨ rRepT K x y H Q
theorem op_mulM {X : Cx} : OpR X (binaryOp .Mult) (rMulM X.K) := OpR.or op_mul (OpR.or op_mulW (OpR.or op_rep (OpR.or op_repS (OpR.or op_repTS op_repT))))
theorem RVs.rep {H : Hp} {xs : List MV} {vs : List V} (h : RVs K H xs vs) : ∀ n : Nat, RVs K H (List.replicate n xs).flatten (List.replicate n vs).flatten
  | 0 => by simp [RVs]
  | n + 1 => by
    rw [List.replicate_succ, List.replicate_succ, List.flatten_cons, List.flatten_cons]
    exact h.append (RVs.rep h n)
theorem os_mul : OpS K fMul (rMulM K) := by
  intro x y z v w Hk H Q e ex r1 r2 q qn
  unfold fMul at e
  split at e
  · rename_i i j
    split at e
    · rename_i h
      cases e
      unfold mulOk at h
      rw [Bool.or_eq_true] at h
      rcases h with h | h
      · refine .inl ⟨i, j, RV.int.mp r1, RV.int.mp r2, ?_, q _ (RV.int.mpr rfl)⟩
        simp only [Bool.or_eq_true, Bool.and_eq_true, decide_eq_true_eq] at h
        exact h
      · exact .inr (.inl ⟨i, j, RV.int.mp r1, RV.int.mp r2, of_decide_eq_true h, q _ (RV.int.mpr rfl)⟩)
    · cases e
  · rename_i a k
    split at e
    · rename_i h
      cases e
      simp only [Bool.and_eq_true, Bool.or_eq_true, decide_eq_true_eq] at h
      obtain ⟨p1, vs, rfl, h1, s1⟩ := RV.tup.mp r1
      have hvl := s1.length
      by_cases hk : k = 1 ∨ vs = []
      · refine .inr (.inr (.inr (.inr (.inl ⟨p1, k, vs, rfl, RV.int.mp r2, ex_t ex h1, hk, h.1.1, h.1.2, q _ ?_⟩))))
        have er : (List.replicate k.toNat a).flatten = a := by
          rcases hk with rfl | rfl
          · simp
          · have : a = [] := List.length_eq_zero_iff.mp (by simpa using hvl.symm)
            subst this; simp
        rw [er]
        exact RV.tup.mpr ⟨p1, vs, rfl, h1, s1⟩
      · have hk2 : 2 ≤ k ∧ k ≤ 1000 ∧ a.length ≤ 1000 := by
          rcases h.2 with (h2 | h2) | h2
          · exact absurd (.inl h2) hk
          · exact absurd (.inr (List.length_eq_zero_iff.mp (by rw [hvl]; simpa using h2))) hk
          · exact ⟨h2.1.1, h2.1.2, h2.2⟩
        refine .inr (.inr (.inr (.inr (.inr ⟨p1, k, vs, rfl, RV.int.mp r2, ex_t ex h1, fun e0 => hk (.inr e0), hk2.1, hk2.2.1, by rw [hvl]; exact hk2.2.2, fun p hp => qn p _ hp ?_⟩))))
        have z := Ex.new (o := .tup (List.replicate k.toNat vs).flatten) (ex.back hp)
        exact RV.tup.mpr ⟨p, _, rfl, SqT.of upd_same, (RVs.rep s1 _).mono z⟩
    · cases e
  · rename_i a k
    split at e
    · rename_i h
      cases e
      simp only [Bool.and_eq_true, decide_eq_true_eq] at h
      exact .inr (.inr (.inr (.inl ⟨a, k, RV.str.mp r1, RV.int.mp r2, h.1.1, h.1.2, szOk_iff.mp h.2, q _ (RV.str.mpr rfl)⟩)))
    · cases e
  · rename_i a k
    split at e
    · rename_i h
      cases e
      simp only [Bool.and_eq_true, decide_eq_true_eq] at h
      obtain ⟨p1, vs, rfl, h1, s1⟩ := RV.lst.mp r1
      refine .inr (.inr (.inl ⟨p1, k, vs, rfl, RV.int.mp r2, ex _ _ h1, h.1.1, h.1.2, ?_, fun p hp => qn p _ hp ?_⟩))
      · rw [s1.length]; exact szOk_iff.mp h.2
      · have z := Ex.new (o := .lst (List.replicate k.toNat vs).flatten) (ex.back hp)
        exact RV.lst.mpr ⟨p, _, rfl, upd_same, (RVs.rep s1 _).mono z⟩
    · cases e
  · cases e
def rDivM : R2 := fun x y H Q => (rI CDivN fun i j => .int (i.fdiv j)) x y H Q ∨ (rI CDivW fun i j => .int (i / j)) x y H Q
theorem op_divM {X : Cx} : OpR X (binaryOp .FloorDiv) rDivM := OpR.or op_fdivN op_fdivW
theorem os_div : OpS K fDiv rDivM := by
  intro x y z v w Hk H Q e ex r1 r2 q qn
  unfold fDiv at e
  split at e
  · rename_i i j
    split at e
    · rename_i h
      cases e
      unfold divOk at h
      rw [Bool.or_eq_true] at h
      rcases h with h | h
      · simp only [Bool.and_eq_true, decide_eq_true_eq] at h
        exact .inl ⟨i, j, RV.int.mp r1, RV.int.mp r2, h, q _ (RV.int.mpr rfl)⟩
      · simp only [Bool.and_eq_true, decide_eq_true_eq] at h
        refine .inr ⟨i, j, RV.int.mp r1, RV.int.mp r2, h, ?_⟩
        have := q _ (RV.int.mpr rfl)
        rw [Int.fdiv_eq_ediv_of_nonneg i (by omega)] at this
        exact this
    · cases e
  · cases e
theorem os_mod : OpS K fMod (rI (fun _ j => j ≠ 0) fun i j => .int (i.fmod j)) := by
  intro x y z v w Hk H Q e ex r1 r2 q qn
  unfold fMod at e
  split at e
  · split at e
    · rename_i h
      cases e
      exact ⟨_, _, RV.int.mp r1, RV.int.mp r2, of_decide_eq_true h, q _ (RV.int.mpr rfl)⟩
    · cases e
  · cases e
theorem os_pow : OpS K fPow (rI CPow fun i j => .int (i ^ j.toNat)) := by
  intro x y z v w Hk H Q e ex r1 r2 q qn
  unfold fPow at e
  split at e
  · split at e
    · rename_i h
      cases e
      simp only [Bool.and_eq_true, decide_eq_true_eq] at h
      exact ⟨_, _, RV.int.mp r1, RV.int.mp r2, ⟨h.1.1, h.1.2, h.2⟩, q _ (RV.int.mpr rfl)⟩
    · cases e
  · cases e
theorem os_and : OpS K fAnd (rI0 fun i j => .int (Builtin.bitAnd i j)) := by
  intro x y z v w Hk H Q e ex r1 r2 q qn
  unfold fAnd at e
  split at e
  · cases e; exact ⟨_, _, RV.int.mp r1, RV.int.mp r2, q _ (RV.int.mpr rfl)⟩
  · cases e
theorem os_or : OpS K fOr (rI0 fun i j => .int (Builtin.bitOr i j)) := by
  intro x y z v w Hk H Q e ex r1 r2 q qn
  unfold fOr at e
  split at e
  · cases e; exact ⟨_, _, RV.int.mp r1, RV.int.mp r2, q _ (RV.int.mpr rfl)⟩
  · cases e
theorem os_lt : OpS K fLt (rI0 fun i j => .bl (decide (i < j))) := by
  intro x y z v w Hk H Q e ex r1 r2 q qn
  unfold fLt at e
  split at e
  · cases e; exact ⟨_, _, RV.int.mp r1, RV.int.mp r2, q _ (RV.bl.mpr rfl)⟩
  · cases e
theorem os_le : OpS K fLe (rI0 fun i j => .bl (decide (i ≤ j))) := by
  intro x y z v w Hk H Q e ex r1 r2 q qn
  unfold fLe at e
  split at e
  · cases e; exact ⟨_, _, RV.int.mp r1, RV.int.mp r2, q _ (RV.bl.mpr rfl)⟩
  · cases e
theorem os_gt : OpS K fGt (rI0 fun i j => .bl (decide (j < i))) := by
  intro x y z v w Hk H Q e ex r1 r2 q qn
  unfold fGt at e
  split at e
  · cases e; exact ⟨_, _, RV.int.mp r1, RV.int.mp r2, q _ (RV.bl.mpr rfl)⟩
  · cases e
theorem os_ge : OpS K fGe (rI0 fun i j => .bl (decide (j ≤ i))) := by
  intro x y z v w Hk H Q e ex r1 r2 q qn
  unfold fGe at e
  split at e
  · cases e; exact ⟨_, _, RV.int.mp r1, RV.int.mp r2, q _ (RV.bl.mpr rfl)⟩
  · cases e
theorem RV.isnon {H : Hp} {x : MV} {v : V} (h : RV K H x v) : decide (v = .non) = x.isN := by
  cases x with
  | raw w => rw [RV.raw.mp h]; rfl
  | own _ => unfold RV at h; exact h.elim
  | obj _ _ => unfold RV at h; exact h.elim
  | non => rw [RV.non.mp h]; rfl
  | int i => rw [RV.int.mp h]; rfl
  | bl i => rw [RV.bl.mp h]; rfl
  | str i => rw [RV.str.mp h]; rfl
  | tup xs => obtain ⟨a, vs, e, _⟩ := RV.tup.mp h; rw [e]; rfl
  | lst xs => obtain ⟨a, vs, e, _⟩ := RV.lst.mp h; rw [e]; rfl
  | scr xs => obtain ⟨a, e, _⟩ := RV.scr.mp h; rw [e]; rfl
  | fnc x => obtain ⟨a, e, _⟩ := RV.fnc.mp h; rw [e]; rfl
  | dct ks xs => obtain ⟨a, vs, e, _⟩ := RV.dct.mp h; rw [e]; rfl
  | dow _ _ => unfold RV at h; exact h.elim
  | dot _ _ => unfold RV at h; exact h.elim
theorem os_isN : OpS K fIsN (fun x y H Q => y = .non ∧ Q (.bl (decide (x = .non))) H) := by
  intro x y z v w Hk H Q e ex r1 r2 q qn
  unfold fIsN at e
  split at e
  · cases e; refine ⟨RV.non.mp r2, ?_⟩
    rw [r1.isnon]; exact q _ (RV.bl.mpr rfl)
  · cases e
theorem os_notN : OpS K fNotN (fun x y H Q => y = .non ∧ Q (.bl (!decide (x = .non))) H) := by
  intro x y z v w Hk H Q e ex r1 r2 q qn
  unfold fNotN at e
  split at e
  · cases e; refine ⟨RV.non.mp r2, ?_⟩
    rw [r1.isnon]; exact q _ (RV.bl.mpr rfl)
  · cases e
theorem scal_of {H : Hp} {x y : MV} {v w : V} (h : scalM x y = true) (r1 : RV K H x v) (r2 : RV K H y w) : scal v w = true ∧ decide (v = w) = sameM x y := by
  unfold scalM at h
  split at h <;> first | (cases h; done) | skip
  all_goals
    first
      | (rw [RV.non.mp r1] ) | (rw [RV.int.mp r1]) | (rw [RV.bl.mp r1]) | (rw [RV.str.mp r1])
    first
      | (rw [RV.non.mp r2] ) | (rw [RV.int.mp r2]) | (rw [RV.bl.mp r2]) | (rw [RV.str.mp r2])
    refine ⟨rfl, ?_⟩
    simp [sameM]
mutual
theorem Dp.of {Hk H : Hp} (ex : Ex Hk H) : ∀ (x : MV) (v : V) (d : PyData), RV K Hk x v → toD x = some d → Dp K H v d
  | .non, v, d, r, e => by rw [RV.non.mp r]; unfold toD at e; cases e; exact .non
  | .bl b, v, d, r, e => by rw [RV.bl.mp r]; unfold toD at e; cases e; exact .bl b
  | .int b, v, d, r, e => by rw [RV.int.mp r]; unfold toD at e; cases e; exact .int b
  | .str b, v, d, r, e => by rw [RV.str.mp r]; unfold toD at e; cases e; exact .str b
  | .tup xs, v, d, r, e => by
    obtain ⟨a, vs, rfl, h, s⟩ := RV.tup.mp r
    unfold toD at e
    cases e2 : toDs xs with
    | none => rw [e2] at e; cases e
    | some ds =>
      rw [e2] at e; cases e
      exact .tup (ex_t ex h) (DpAll.of ex xs vs ds s e2)
  | .lst xs, v, d, r, e => by
    obtain ⟨a, vs, rfl, h, s⟩ := RV.lst.mp r
    unfold toD at e
    cases e2 : toDs xs with
    | none => rw [e2] at e; cases e
    | some ds =>
      rw [e2] at e; cases e
      exact .lst (SqL.of (ex _ _ h)) (DpAll.of ex xs vs ds s e2)
  | .own _, v, d, r, e => by unfold toD at e; cases e
  | .raw _, v, d, r, e => by unfold toD at e; cases e
  | .scr _, v, d, r, e => by unfold toD at e; cases e
  | .fnc _, v, d, r, e => by unfold toD at e; cases e
  | .obj _ _, v, d, r, e => by unfold toD at e; cases e
  | .dct _ _, v, d, r, e => by unfold toD at e; cases e
  | .dow _ _, v, d, r, e => by unfold toD at e; cases e
  | .dot _ _, v, d, r, e => by unfold toD at e; cases e
theorem DpAll.of {Hk H : Hp} (ex : Ex Hk H) : ∀ (xs : List MV) (vs : List V) (ds : List PyData), RVs K Hk xs vs → toDs xs = some ds → DpAll K H vs ds
  | [], vs, ds, r, e => by rw [RVs.nil.mp r]; unfold toDs at e; cases e; exact .nil
  | x :: xs, vs, ds, r, e => by
    obtain ⟨v, us, rfl, r1, r2⟩ := RVs.cons.mp r
    unfold toDs at e
    split at e
    · rename_i d ds' e1 e2
      cases e
      exact .cons (Dp.of ex x v d r1 e1) (DpAll.of ex xs us ds' r2 e2)
    · cases e
end
def rEqM (K : PySem.W.Frag) : R2 := fun x y H Q => rEq x y H Q ∨ rEqD K x y H Q
def rNeM (K : PySem.W.Frag) : R2 := fun x y H Q => rNe x y H Q ∨ rNeD K x y H Q
theorem op_eqM {X : Cx} (hu : X.A.units + 64 < cLine) : OpR X (compareOp .Eq) (rEqM X.K) := OpR.or op_eq (op_eqD hu)
theorem op_neM {X : Cx} (hu : X.A.units + 64 < cLine) : OpR X (compareOp .NotEq) (rNeM X.K) := OpR.or op_ne (op_neD hu)
theorem os_eq : OpS K fEq (rEqM K) := by
  intro x y z v w Hk H Q e ex r1 r2 q qn
  unfold fEq eqM at e
  split at e
  · rename_i h
    obtain ⟨s1, s2⟩ := scal_of h r1 r2
    cases e
    refine .inl ⟨s1, ?_⟩
    rw [s2]; exact q _ (RV.bl.mpr rfl)
  · split at e
    · rename_i d e' e1 e2
      split at e
      · rename_i h
        rw [Bool.and_eq_true] at h
        cases e
        exact .inr ⟨d, e', Dp.of ex _ _ _ r1 e1, Dp.of ex _ _ _ r2 e2, h.1, h.2, q _ (RV.bl.mpr rfl)⟩
      · cases e
    · cases e
theorem os_ne : OpS K fNe (rNeM K) := by
  intro x y z v w Hk H Q e ex r1 r2 q qn
  unfold fNe eqM at e
  split at e
  · rename_i h
    obtain ⟨s1, s2⟩ := scal_of h r1 r2
    cases e
    refine .inl ⟨s1, ?_⟩
    rw [s2]; exact q _ (RV.bl.mpr rfl)
  · split at e
    · rename_i d e' e1 e2
      split at e
      · rename_i h
        rw [Bool.and_eq_true] at h
        cases e
        exact .inr ⟨d, e', Dp.of ex _ _ _ r1 e1, Dp.of ex _ _ _ r2 e2, h.1, h.2, q _ (RV.bl.mpr rfl)⟩
      · cases e
    · cases e
def fIx : MV → MV → Option MV
  | .lst xs, .int i => atI xs i
  | .tup xs, .int i => atI xs i
  | .scr ns, .int i => (atI ns i).map .int
  | .str z, .int i => if szOk z.length then (atI z.cps.toList i).map fun c => .str ⟨#[c]⟩ else none
  | _, _ => none
theorem atI_rv {H : Hp} {xs : List MV} {vs : List V} (r : RVs K H xs vs) {i : Int} {x : MV} (e : atI xs i = some x) : ∃ v, atI vs i = some v ∧ RV K H x v := by
  unfold atI at e ⊢
  rw [r.length]
  cases h : ixN xs.length i with
  | none => rw [h] at e; cases e
  | some j =>
    rw [h] at e
    exact r.get e
theorem atI_map {α β : Type} {f : α → β} {xs : List α} {i : Int} {x : α} (e : atI xs i = some x) : atI (xs.map f) i = some (f x) := by
  unfold atI at e ⊢
  rw [List.length_map]
  cases h : ixN xs.length i with
  | none => rw [h] at e; cases e
  | some j =>
    rw [h] at e
    show (xs.map f)[j]? = _
    rw [List.getElem?_map, show xs[j]? = some x from e]; rfl
theorem os_ix : OpS K fIx (rIx K) := by
  intro x y z v w Hk H Q e ex r1 r2 q qn
  unfold fIx at e
  split at e
  · obtain ⟨p1, vs, rfl, h1, s1⟩ := RV.lst.mp r1
    obtain ⟨u, eu, ru⟩ := atI_rv s1 e
    exact .inl ⟨p1, vs, _, u, rfl, RV.int.mp r2, SqL.of (ex _ _ h1), eu, q _ ru⟩
  · obtain ⟨p1, vs, rfl, h1, s1⟩ := RV.tup.mp r1
    obtain ⟨u, eu, ru⟩ := atI_rv s1 e
    exact .inr (.inl ⟨p1, vs, _, u, rfl, RV.int.mp r2, ex_t ex h1, eu, q _ ru⟩)
  · rename_i ns i
    obtain ⟨p1, rfl, h1⟩ := RV.scr.mp r1
    cases h : atI ns i with
    | none => rw [h] at e; cases e
    | some n =>
      rw [h] at e; cases e
      exact .inl ⟨p1, _, _, _, rfl, RV.int.mp r2, ex_l ex h1, atI_map h, q _ (RV.int.mpr rfl)⟩
  · rename_i s i
    split at e
    · rename_i hz
      cases h : atI s.cps.toList i with
      | none => rw [h] at e; cases e
      | some n =>
        rw [h] at e; cases e
        exact .inr (.inr ⟨s, i, n, RV.str.mp r1, RV.int.mp r2, szOk_iff.mp hz, h, q _ (RV.str.mpr rfl)⟩)
    · cases e
  · cases e
def flatM : MV → Bool
  | .non | .bl _ | .int _ | .str _ => true
  | _ => false
def eqFlat : MV → MV → Bool
  | .non, .non => true
  | .bl a, .bl b => a == b
  | .bl a, .int b => (if a then 1 else 0) == b
  | .int a, .bl b => a == (if b then 1 else 0)
  | .int a, .int b => a == b
  | .str a, .str b => a == b
  | _, _ => false
theorem flat_v {H : Hp} {x : MV} {v : V} (h : flatM x = true) (r : RV K H x v) : flatV v = true := by
  unfold flatM at h
  split at h <;> first | (cases h; done) | skip
  · rw [RV.non.mp r]; rfl
  · rw [RV.bl.mp r]; rfl
  · rw [RV.int.mp r]; rfl
  · rw [RV.str.mp r]; rfl
theorem flat_eq {H : Hp} {x y : MV} {v w : V} (h : flatM x = true) (h2 : flatM y = true) (r : RV K H x v) (r2 : RV K H y w) : eqV v w = eqFlat x y := by
  unfold flatM at h h2
  split at h <;> first | (cases h; done) | skip
  all_goals (split at h2 <;> first | (cases h2; done) | skip)
  all_goals
    first
      | (rw [RV.non.mp r] ) | (rw [RV.int.mp r]) | (rw [RV.bl.mp r]) | (rw [RV.str.mp r])
    first
      | (rw [RV.non.mp r2] ) | (rw [RV.int.mp r2]) | (rw [RV.bl.mp r2]) | (rw [RV.str.mp r2])
    rfl
theorem flats_v {H : Hp} : ∀ {xs : List MV} {vs : List V}, xs.all flatM = true → RVs K H xs vs → vs.all flatV = true
  | [], vs, _, r => by rw [RVs.nil.mp r]; rfl
  | x :: xs, vs, h, r => by
    obtain ⟨v, us, rfl, r1, r2⟩ := RVs.cons.mp r
    rw [List.all_cons, Bool.and_eq_true] at h
    rw [List.all_cons, flat_v h.1 r1, flats_v h.2 r2]; rfl
theorem inV_eq {H : Hp} {y : MV} {w : V} (hy : flatM y = true) (ry : RV K H y w) : ∀ {xs : List MV} {vs : List V}, xs.all flatM = true → RVs K H xs vs → inV w vs = xs.any fun x => eqFlat x y
  | [], vs, _, r => by rw [RVs.nil.mp r]; rfl
  | x :: xs, vs, h, r => by
    obtain ⟨v, us, rfl, r1, r2⟩ := RVs.cons.mp r
    rw [List.all_cons, Bool.and_eq_true] at h
    have ih := inV_eq hy ry h.2 r2
    unfold inV at ih ⊢
    rw [List.any_cons, List.any_cons, ih, flat_eq h.1 hy r1 ry]
def inM (y : MV) (xs : List MV) : Option Bool := if flatM y && xs.all flatM then some (xs.any fun x => eqFlat x y) else none
def inA : MV → MV → Option Bool
  | y, .lst xs => inM y xs
  | y, .tup xs => inM y xs
  | .str i, .str j => some (!(Builtin.Str.occurrences j i 0 j.length 1).isEmpty)
  | _, _ => none
def fIn (x y : MV) : Option MV := (inA x y).map .bl
def rInM (K : PySem.W.Frag) : R2 := fun x y H Q => rIn K false x y H Q ∨ (∃ i j, x = .str i ∧ y = .str j ∧ Q (.bl (!(Builtin.Str.occurrences j i 0 j.length 1).isEmpty)) H)
theorem op_inM {X : Cx} : OpR X (compareOp .In) (rInM X.K) := OpR.or op_in_seq op_in_str
theorem in_sq {Hk H : Hp} {x y : MV} {v w : V} {b : Bool} (ex : Ex Hk H) (r1 : RV K Hk x v) (r2 : RV K Hk y w) (e : inA x y = some b) :
    (∃ p xs, w = .ref p ∧ (SqL K H p xs ∨ SqT K H p xs) ∧ flatV v = true ∧ xs.all flatV = true ∧ inV v xs = b) ∨ (∃ i j, v = .str i ∧ w = .str j ∧ (!(Builtin.Str.occurrences j i 0 j.length 1).isEmpty) = b) := by
  unfold inA at e
  split at e
  · unfold inM at e
    split at e
    · rename_i h
      cases e
      rw [Bool.and_eq_true] at h
      obtain ⟨p1, vs, rfl, h1, s1⟩ := RV.lst.mp r2
      exact .inl ⟨p1, vs, rfl, .inl (SqL.of (ex _ _ h1)), flat_v h.1 r1, flats_v h.2 s1, inV_eq h.1 r1 h.2 s1⟩
    · cases e
  · unfold inM at e
    split at e
    · rename_i h
      cases e
      rw [Bool.and_eq_true] at h
      obtain ⟨p1, vs, rfl, h1, s1⟩ := RV.tup.mp r2
      exact .inl ⟨p1, vs, rfl, .inr (ex_t ex h1), flat_v h.1 r1, flats_v h.2 s1, inV_eq h.1 r1 h.2 s1⟩
    · cases e
  · cases e
    exact .inr ⟨_, _, RV.str.mp r1, RV.str.mp r2, rfl⟩
  · cases e
theorem os_in : OpS K fIn (rInM K) := by
  intro x y z v w Hk H Q e ex r1 r2 q qn
  unfold fIn at e
  cases eb : inA x y with
  | none => rw [eb] at e; cases e
  | some b =>
    rw [eb] at e; cases e
    rcases in_sq ex r1 r2 eb with ⟨p, xs, e1, e2, e3, e4, e5⟩ | ⟨i, j, e1, e2, e3⟩
    · exact .inl ⟨p, xs, e1, e2, e3, e4, by rw [if_neg (by decide), e5]; exact q _ (RV.bl.mpr rfl)⟩
    · exact .inr ⟨i, j, e1, e2, by rw [e3]; exact q _ (RV.bl.mpr rfl)⟩
end
end Tm
set_option Elab.async false
set_option linter.all false
set_option maxRecDepth 100000
set_option maxHeartbeats 2000000
namespace Tm
open PySem L2
open Evl (Ex ex_rd ex_l ex_t)
structure Post (c : Ct) (F : Hp) (bp : List (Nat × Addr)) (σ : St) {β : Type} (P : Hp → Res (β × Env) → Prop) : Prop where
  ex : ∀ Hk e ρ, P Hk (.exc e ρ) → Wish c F Hk bp σ e ρ
  st : ∀ Hk, ¬ P Hk .stuck
  mono : ∀ Hk Hk' r, Ex Hk Hk' → P Hk r → P Hk' r
section
variable {c : Ct} {F Hk H : Hp} {bp : List (Nat × Addr)} {σ : St} {ρ : Env} {β : Type}
theorem postE {Q : VK} : Post c F bp σ fun Hk r => okE c F Hk bp σ Q r := ⟨fun _ _ _ h => h, fun _ h => h, fun _ _ _ x h => okE.mono x h⟩
theorem postO {Q : VK} : Post c F bp σ fun Hk r => okO c F Hk bp σ Q r := ⟨fun _ _ _ h => h, fun _ h => h, fun _ _ _ x h => okO.mono x h⟩
theorem postT {Q : Bool → Hp → Prop} : Post c F bp σ fun Hk r => okT c F Hk bp σ Q r := ⟨fun _ _ _ h => h, fun _ h => h, fun _ _ _ x h => okT.mono x h⟩
theorem postA {Q : List V → Hp → Prop} : Post c F bp σ fun Hk r => okA c F Hk bp σ Q r := ⟨fun _ _ _ h => h, fun _ h => h, fun _ _ _ x h => okA.mono x h⟩
theorem postS {D : Ends} : Post c F bp σ fun Hk r => okS c F Hk bp D r := ⟨fun _ _ _ h Hk' H' cls d => h Hk' H' σ cls d, fun _ h => h, fun _ _ _ x h => okS.mono x h⟩
variable {P : Hp → Res (β × Env) → Prop}
theorem bE (p : Post c F bp σ P) {a : ME} {k : MV → Env → Res (β × Env)} (S : At c F Hk H bp σ ρ) (h : P Hk ((a ρ).bind k)) :
    rdE c a σ H fun v H1 => ∃ Hk1 x ρ1, Ex Hk Hk1 ∧ At c F Hk1 H1 bp σ ρ1 ∧ RV c.K Hk1 x v ∧ P Hk1 (k x ρ1) := by
  refine ⟨F, Hk, bp, ρ, S, ?_⟩
  cases e : a ρ with
  | stuck => rw [e] at h; exact p.st _ h
  | exc x ρ' => rw [e] at h; exact p.ex _ _ _ h
  | ok q =>
    rw [e] at h
    exact fun Hk1 H1 v x1 S1 r1 => ⟨Hk1, q.1, q.2, x1, ⟨S1, S.2⟩, r1, p.mono _ _ _ x1 h⟩
theorem bO (p : Post c F bp σ P) {a : ME} {k : MV → Env → Res (β × Env)} (S : At c F Hk H bp σ ρ) (h : P Hk ((a ρ).bind k)) :
    rdO c a σ H fun v H1 => ∃ Hk1 x ρ1, Ex Hk Hk1 ∧ RS c.K F Hk1 H1 bp (σ ++ [some v]) (ρ1 ++ [some x]) ∧ P Hk1 (k x ρ1) := by
  refine ⟨F, Hk, bp, ρ, S, ?_⟩
  cases e : a ρ with
  | stuck => rw [e] at h; exact p.st _ h
  | exc x ρ' => rw [e] at h; exact p.ex _ _ _ h
  | ok q =>
    rw [e] at h
    exact fun Hk1 H1 v x1 S1 => ⟨Hk1, q.1, q.2, x1, S1, p.mono _ _ _ x1 h⟩
theorem bT (p : Post c F bp σ P) {a : MT} {k : Bool → Env → Res (β × Env)} (S : At c F Hk H bp σ ρ) (h : P Hk ((a ρ).bind k)) :
    rdT c a σ H fun b H1 => ∃ Hk1 ρ1, Ex Hk Hk1 ∧ At c F Hk1 H1 bp σ ρ1 ∧ P Hk1 (k b ρ1) := by
  refine ⟨F, Hk, bp, ρ, S, ?_⟩
  cases e : a ρ with
  | stuck => rw [e] at h; exact p.st _ h
  | exc x ρ' => rw [e] at h; exact p.ex _ _ _ h
  | ok q =>
    rw [e] at h
    exact fun Hk1 H1 x1 S1 => ⟨Hk1, q.2, x1, ⟨S1, S.2⟩, p.mono _ _ _ x1 h⟩
theorem bA (p : Post c F bp σ P) {a : MA} {k : List MV → Env → Res (β × Env)} (S : At c F Hk H bp σ ρ) (h : P Hk ((a ρ).bind k)) :
    rdA c a σ H fun vs H1 => ∃ Hk1 xs ρ1, Ex Hk Hk1 ∧ At c F Hk1 H1 bp σ ρ1 ∧ RVs c.K Hk1 xs vs ∧ P Hk1 (k xs ρ1) := by
  refine ⟨F, Hk, bp, ρ, S, ?_⟩
  cases e : a ρ with
  | stuck => rw [e] at h; exact p.st _ h
  | exc x ρ' => rw [e] at h; exact p.ex _ _ _ h
  | ok q =>
    rw [e] at h
    exact fun Hk1 H1 vs x1 S1 r1 => ⟨Hk1, q.1, q.2, x1, ⟨S1, S.2⟩, r1, p.mono _ _ _ x1 h⟩
end
section
variable {c : Ct}
theorem okE.imp {F Hk : Hp} {bp : List (Nat × Addr)} {σ : St} {Q Q' : VK} {r : Res (MV × Env)} (h : okE c F Hk bp σ Q r) (w : ∀ v H, Q v H → Q' v H) : okE c F Hk bp σ Q' r := by
  cases r with
  | ok a => exact fun Hk2 H2 v x S r => w _ _ (h Hk2 H2 v x S r)
  | exc e ρ => exact h
  | stuck => exact h
theorem okT.imp {F Hk : Hp} {bp : List (Nat × Addr)} {σ : St} {Q Q' : Bool → Hp → Prop} {r : Res (Bool × Env)} (h : okT c F Hk bp σ Q r) (w : ∀ v H, Q v H → Q' v H) : okT c F Hk bp σ Q' r := by
  cases r with
  | ok a => exact fun Hk2 H2 x S => w _ _ (h Hk2 H2 x S)
  | exc e ρ => exact h
  | stuck => exact h
theorem okA.imp {F Hk : Hp} {bp : List (Nat × Addr)} {σ : St} {Q Q' : List V → Hp → Prop} {r : Res (List MV × Env)} (h : okA c F Hk bp σ Q r) (w : ∀ v H, Q v H → Q' v H) : okA c F Hk bp σ Q' r := by
  cases r with
  | ok a => exact fun Hk2 H2 v x S r => w _ _ (h Hk2 H2 v x S r)
  | exc e ρ => exact h
  | stuck => exact h
theorem okO.imp {F Hk : Hp} {bp : List (Nat × Addr)} {σ : St} {Q Q' : VK} {r : Res (MV × Env)} (h : okO c F Hk bp σ Q r) (w : ∀ v H, Q v H → Q' v H) : okO c F Hk bp σ Q' r := by
  cases r with
  | ok a => exact fun Hk2 H2 v x S => w _ _ (h Hk2 H2 v x S)
  | exc e ρ => exact h
  | stuck => exact h
theorem rdw {m : ME} {σ : St} {H : Hp} {Q Q' : VK} (h : rdE c m σ H Q) (w : ∀ v H, Q v H → Q' v H) : rdE c m σ H Q' := let ⟨F, Hk, bp, ρ, S, q⟩ := h; ⟨F, Hk, bp, ρ, S, q.imp w⟩
theorem rdOw {m : ME} {σ : St} {H : Hp} {Q Q' : VK} (h : rdO c m σ H Q) (w : ∀ v H, Q v H → Q' v H) : rdO c m σ H Q' := let ⟨F, Hk, bp, ρ, S, q⟩ := h; ⟨F, Hk, bp, ρ, S, q.imp w⟩
theorem rdTw {m : MT} {σ : St} {H : Hp} {Q Q' : Bool → Hp → Prop} (h : rdT c m σ H Q) (w : ∀ v H, Q v H → Q' v H) : rdT c m σ H Q' := let ⟨F, Hk, bp, ρ, S, q⟩ := h; ⟨F, Hk, bp, ρ, S, q.imp w⟩
theorem rdAw {m : MA} {σ : St} {H : Hp} {Q Q' : List V → Hp → Prop} (h : rdA c m σ H Q) (w : ∀ v H, Q v H → Q' v H) : rdA c m σ H Q' := let ⟨F, Hk, bp, ρ, S, q⟩ := h; ⟨F, Hk, bp, ρ, S, q.imp w⟩
end
section
variable {X : Cx} {c : Ct}
def mTest (a : ME) : MT := fun ρ => (a ρ).bind fun x ρ1 => match x with | .bl b => .ok (b, ρ1) | _ => .stuck
theorem rd_test {a : ME} {σ : St} {H : Hp} {Q : Bool → Hp → Prop} (h : rdT c (mTest a) σ H Q) : (rdE c a) σ H fun x H' => ∃ k, x = .bl k ∧ Q k H' := by
  obtain ⟨F, Hk, bp, ρ, S, h⟩ := h
  obtain ⟨F', Hk', bp', ρ', S', h'⟩ := bE postT S h
  refine ⟨F', Hk', bp', ρ', S', ?_⟩
  cases e : a ρ' with
  | stuck => rw [e] at h'; exact h'
  | exc x r => rw [e] at h'; exact h'
  | ok q =>
    rw [e] at h'
    intro Hk1 H1 v x1 S1 r1
    obtain ⟨Hk2, x, ρ2, x2, S2, r2, h2⟩ := h' Hk1 H1 v x1 S1 r1
    cases x with
    | bl b => exact ⟨b, RV.bl.mp r2, h2 _ _ (Ex.refl _) S2.1⟩
    | _ => exact h2.elim
theorem mt_cmp {op : CmpOp} {f : MV → MV → Option MV} {r : R2} {a b : Expr} {ma mb : ME} {pos : Pos} (ho : OpR X (compareOp op) r) (o : OpS c.K f r) (ha : PE X a (rdE c ma)) (hb : PE X b (rdE c mb)) (hm : behindInMarks op b = false) :
    PT X (.Compare a [op] [b] pos) (rdT c (mTest (mOp f ma mb))) := PTw (pt_cmpR ho ha hb hm) fun σ H Q h => rd_op (Q := fun x H' => ∃ k, x = .bl k ∧ Q k H') o (rd_test h)
theorem mt_val {e : Expr} {m : ME} (h : PE X e (rdE c m)) (he : ∀ whole, isTrue e X.env whole = (do let v ← whole; standAt e.pos; holding [v] (truthy v)) := by intro _; rfl) : PT X e (rdT c (mTest m)) :=
  PTw (pt_val h he) fun σ H Q h => rd_test h
def mChain (f g : MV → MV → Option MV) (a b d : ME) : ME := fun ρ => (a ρ).bind fun x ρ1 => (b ρ1).bind fun y ρ2 => match f x y with
  | some (.bl true) => (d ρ2).bind fun z ρ3 => match g y z with | some w => .ok (w, ρ3) | none => .stuck
  | some (.bl false) => .ok (.bl false, ρ2)
  | _ => .stuck
theorem opEnd {f : MV → MV → Option MV} {r : R2} (o : OpS c.K f r) {F Hk H : Hp} {bp : List (Nat × Addr)} {σ : St} {ρ : Env} {Q : VK} {x y : MV} {v w : V} (S : At c F Hk H bp σ ρ) (r1 : RV c.K Hk x v) (r2 : RV c.K Hk y w)
    (h : okE c F Hk bp σ Q (match f x y with | some z => .ok (z, ρ) | none => .stuck)) : r v w H Q := by
  cases e : f x y with
  | none => rw [e] at h; exact h.elim
  | some z =>
    rw [e] at h
    exact o x y z v w Hk H Q e S.1.ex r1 r2 (fun u ru => h _ _ u (Ex.refl _) S.1 ru) fun p ob hp ru => h _ _ _ (Ex.new (S.1.ex.back hp)) (S.1.new hp) ru
theorem rd_chain {f g : MV → MV → Option MV} {r r' : R2} (o : OpS c.K f r) (o' : OpS c.K g r') {a b d : ME} {σ : St} {H : Hp} {Q : VK} (h : rdE c (mChain f g a b d) σ H Q) : tChain r r' (rdE c a) (rdE c b) (rdE c d) σ H Q := by
  obtain ⟨F, Hk, bp, ρ, S, h⟩ := h
  refine rdw (bE postE S h) fun v H1 ⟨Hk1, x, ρ1, x1, S1, r1, h1⟩ => ?_
  refine rdw (bE postE S1 h1) fun w H2 ⟨Hk2, y, ρ2, x2, S2, r2, h2⟩ => ?_
  split at h2
  · rename_i e
    refine o x y _ v w Hk2 H2 _ e S2.1.ex (RV.mono x2 _ _ r1) r2 (fun u ru => ⟨true, RV.bl.mp ru, ?_⟩) fun p ob hp ru => nomatch (RV.bl.mp ru)
    rw [if_pos rfl]
    refine rdw (bE postE S2 h2) fun z H3 ⟨Hk3, zz, ρ3, x3, S3, r3, h3⟩ => ?_
    exact opEnd o' S3 (RV.mono x3 _ _ r2) r3 h3
  · rename_i e
    refine o x y _ v w Hk2 H2 _ e S2.1.ex (RV.mono x2 _ _ r1) r2 (fun u ru => ⟨false, RV.bl.mp ru, ?_⟩) fun p ob hp ru => nomatch (RV.bl.mp ru)
    rw [if_neg (by decide)]
    exact h2 _ _ _ (Ex.refl _) S2.1 (RV.bl.mpr rfl)
  · exact h2.elim
theorem mt_chain {op op' : CmpOp} {f g : MV → MV → Option MV} {r r' : R2} {a b d : Expr} {ma mb md : ME} {pos : Pos} (ho : OpR X (compareOp op) r) (o : OpS c.K f r) (ho' : OpR X (compareOp op') r') (o' : OpS c.K g r')
    (ha : PE X a (rdE c ma)) (hb : PE X b (rdE c mb)) (hd : PE X d (rdE c md)) (hm : lastMarks [op, op'] [b, d] = false := by with_unfolding_all rfl) : PT X (.Compare a [op, op'] [b, d] pos) (rdT c (mTest (mChain f g ma mb md))) :=
  PTw (pt_chain ho ho' ha hb hd hm) fun σ H Q h => rd_chain (Q := fun x H' => ∃ k, x = .bl k ∧ Q k H') o o' (rd_test h)
def mAndT (a b : MT) : MT := fun ρ => (a ρ).bind fun x ρ1 => if x then b ρ1 else .ok (false, ρ1)
def mOrT (a b : MT) : MT := fun ρ => (a ρ).bind fun x ρ1 => if x then .ok (true, ρ1) else b ρ1
def mNotT (a : MT) : MT := fun ρ => (a ρ).bind fun x ρ1 => .ok (!x, ρ1)
def mIf (t : MT) (a b : ME) : ME := fun ρ => (t ρ).bind fun x ρ1 => if x then a ρ1 else b ρ1
def mBv (t : MT) : ME := fun ρ => (t ρ).bind fun x ρ1 => .ok (.bl x, ρ1)
theorem rd_andT {a b : MT} {σ : St} {H : Hp} {Q : Bool → Hp → Prop} (h : rdT c (mAndT a b) σ H Q) : tAnd (rdT c a) (rdT c b) σ H Q := by
  obtain ⟨F, Hk, bp, ρ, S, h⟩ := h
  refine rdTw (bT postT S h) fun k H1 ⟨Hk1, ρ1, x1, S1, h1⟩ => ?_
  cases k with
  | true => rw [if_pos rfl] at h1 ⊢; exact ⟨F, Hk1, bp, ρ1, S1, h1⟩
  | false => rw [if_neg (by decide)] at h1 ⊢; exact h1 _ _ (Ex.refl _) S1.1
theorem rd_orT {a b : MT} {σ : St} {H : Hp} {Q : Bool → Hp → Prop} (h : rdT c (mOrT a b) σ H Q) : tOr (rdT c a) (rdT c b) σ H Q := by
  obtain ⟨F, Hk, bp, ρ, S, h⟩ := h
  refine rdTw (bT postT S h) fun k H1 ⟨Hk1, ρ1, x1, S1, h1⟩ => ?_
  cases k with
  | true => rw [if_pos rfl] at h1 ⊢; exact h1 _ _ (Ex.refl _) S1.1
  | false => rw [if_neg (by decide)] at h1 ⊢; exact ⟨F, Hk1, bp, ρ1, S1, h1⟩
theorem rd_notT {a : MT} {σ : St} {H : Hp} {Q : Bool → Hp → Prop} (h : rdT c (mNotT a) σ H Q) : tNot (rdT c a) σ H Q := by
  obtain ⟨F, Hk, bp, ρ, S, h⟩ := h
  exact rdTw (bT postT S h) fun k H1 ⟨Hk1, ρ1, x1, S1, h1⟩ => h1 _ _ (Ex.refl _) S1.1
theorem mw_one_and {a : Expr} {m : MT} {pos : Pos} (h : PT X a (rdT c m)) : PW X (.BoolOp .And [a] pos) (rdT c m) := pw_and1 h
theorem mw_one_or {a : Expr} {m : MT} {pos : Pos} (h : PT X a (rdT c m)) : PW X (.BoolOp .Or [a] pos) (rdT c m) := pw_or1 h
theorem mw_and {a b : Expr} {r : List Expr} {m n : MT} {pos : Pos} (h : PT X a (rdT c m)) (g : PW X (.BoolOp .And (b :: r) pos) (rdT c n)) : PW X (.BoolOp .And (a :: b :: r) pos) (rdT c (mAndT m n)) := PWw (pw_and h g) fun _ _ _ q => rd_andT q
theorem mw_or {a b : Expr} {r : List Expr} {m n : MT} {pos : Pos} (h : PT X a (rdT c m)) (g : PW X (.BoolOp .Or (b :: r) pos) (rdT c n)) : PW X (.BoolOp .Or (a :: b :: r) pos) (rdT c (mOrT m n)) := PWw (pw_or h g) fun _ _ _ q => rd_orT q
theorem mt_not {a : Expr} {m : MT} {pos : Pos} (h : PT X a (rdT c m)) : PT X (.UnaryOp .Not a pos) (rdT c (mNotT m)) := PTw (pt_not h) fun _ _ _ q => rd_notT q
theorem rd_if {t : MT} {a b : ME} {σ : St} {H : Hp} {Q : VK} (h : rdE c (mIf t a b) σ H Q) : tIf (rdT c t) (rdE c a) (rdE c b) σ H Q := by
  obtain ⟨F, Hk, bp, ρ, S, h⟩ := h
  refine rdTw (bT postE S h) fun k H1 ⟨Hk1, ρ1, x1, S1, h1⟩ => ?_
  cases k with
  | true => rw [if_pos rfl] at h1 ⊢; exact ⟨F, Hk1, bp, ρ1, S1, h1⟩
  | false => rw [if_neg (by decide)] at h1 ⊢; exact ⟨F, Hk1, bp, ρ1, S1, h1⟩
theorem me_if {t a b : Expr} {mt : MT} {ma mb : ME} {pos : Pos} (ht : PT X t (rdT c mt)) (ha : PE X a (rdE c ma)) (hb : PE X b (rdE c mb)) : PE X (.IfExp t a b pos) (rdE c (mIf mt ma mb)) := PEw (pe_ifExp ht ha hb) fun _ _ _ q => rd_if q
theorem okBv {F Hk : Hp} {bp : List (Nat × Addr)} {σ : St} {Q : VK} {r : Res (Bool × Env)} (h : okT c F Hk bp σ (fun k H => Q (.bl k) H) r) : okE c F Hk bp σ Q (r.bind fun x ρ1 => .ok (.bl x, ρ1)) := by
  cases r with
  | ok a =>
    intro Hk2 H2 v x S rv
    rw [RV.bl.mp rv]
    exact h Hk2 H2 x S
  | exc e ρ => exact h
  | stuck => exact h
theorem rdBv {t : MT} {σ : St} {H : Hp} {Q : VK} (h : rdT c t σ H fun k H1 => Q (.bl k) H1) : rdE c (mBv t) σ H Q := let ⟨F, Hk, bp, ρ, S, q⟩ := h; ⟨F, Hk, bp, ρ, S, okBv q⟩
theorem rdBv' {t : MT} {σ : St} {H : Hp} {Q : VK} (h : rdE c (mBv t) σ H Q) : rdT c t σ H fun k H1 => Q (.bl k) H1 := by
  obtain ⟨F, Hk, bp, ρ, S, h⟩ := h
  exact rdTw (bT postE S h) fun k H1 ⟨Hk1, ρ1, x1, S1, h1⟩ => h1 _ _ _ (Ex.refl _) S1.1 (RV.bl.mpr rfl)
end
end Tm
set_option Elab.async false
set_option linter.all false
set_option maxRecDepth 100000
set_option maxHeartbeats 2000000
namespace Tm
open PySem L2
open Evl (Ex ex_rd ex_l ex_t)
section
variable {X : Cx} {c : Ct}
theorem rd_oneV {a : ME} {σ : St} {H : Hp} {Q : VK} (h : rdE c (mBv (mTest a)) σ H Q) : rdE c a σ H Q := rdw (rd_test (rdBv' h)) fun v H1 ⟨k, e, q⟩ => by rw [e]; exact q
theorem me_one {op : BoolOp} {a : Expr} {m : ME} {pos : Pos} (h : PE X a (rdE c m)) : PE X (.BoolOp op [a] pos) (rdE c (mBv (mTest m))) := PEw (pe_one h) fun _ _ _ q => rd_oneV q
theorem me_and {a b : Expr} {r : List Expr} {m : ME} {t : MT} {pos : Pos} (h : PE X a (rdE c m)) (g : PE X (.BoolOp .And (b :: r) pos) (rdE c (mBv t))) : PE X (.BoolOp .And (a :: b :: r) pos) (rdE c (mBv (mAndT (mTest m) t))) :=
  PEw (pe_and h g) fun σ H Q q => rdw (rd_test (rd_andT (rdBv' q))) fun v H1 ⟨k, e, q⟩ => ⟨k, e, by
    cases k with
    | true => rw [if_pos rfl] at q ⊢; exact rdBv q
    | false => rw [if_neg (by decide)] at q ⊢; exact q⟩
def mUn (f : MV → Option MV) (a : ME) : ME := fun ρ => (a ρ).bind fun x ρ1 => match f x with | some z => .ok (z, ρ1) | none => .stuck
def fNeg : MV → Option MV
  | .int i => some (.int (-i))
  | _ => none
def UnS (K : PySem.W.Frag) (f : MV → Option MV) (r : V → Hp → VK → Prop) : Prop := ∀ (x z : MV) (v : V) (Hk H : Hp) (Q : VK), f x = some z → Ex Hk H → RV K Hk x v → (∀ u, RV K Hk z u → Q u H) →
  (∀ p o, H p = none → RV K (upd Hk p o) z (.ref p) → Q (.ref p) (upd H p o)) → r v H Q
theorem unEnd {f : MV → Option MV} {r : V → Hp → VK → Prop} (o : UnS c.K f r) {F Hk H : Hp} {bp : List (Nat × Addr)} {σ : St} {ρ : Env} {Q : VK} {x : MV} {v : V} (S : At c F Hk H bp σ ρ) (r1 : RV c.K Hk x v)
    (h : okE c F Hk bp σ Q (match f x with | some z => .ok (z, ρ) | none => .stuck)) : r v H Q := by
  cases e : f x with
  | none => rw [e] at h; exact h.elim
  | some z =>
    rw [e] at h
    exact o x z v Hk H Q e S.1.ex r1 (fun u ru => h _ _ u (Ex.refl _) S.1 ru) fun p ob hp ru => h _ _ _ (Ex.new (S.1.ex.back hp)) (S.1.new hp) ru
theorem rd_un {f : MV → Option MV} {r : V → Hp → VK → Prop} (o : UnS c.K f r) {a : ME} {σ : St} {H : Hp} {Q : VK} (h : rdE c (mUn f a) σ H Q) : tUn r (rdE c a) σ H Q := by
  obtain ⟨F, Hk, bp, ρ, S, h⟩ := h
  exact rdw (bE postE S h) fun v H1 ⟨Hk1, x, ρ1, x1, S1, r1, h1⟩ => unEnd o S1 r1 h1
theorem us_neg {K : PySem.W.Frag} : UnS K fNeg (rU fun i => .int (-i)) := by
  intro x z v Hk H Q e ex r1 q qn
  unfold fNeg at e
  split at e
  · cases e; exact ⟨_, RV.int.mp r1, q _ (RV.int.mpr rfl)⟩
  · cases e
theorem me_neg {a : Expr} {m : ME} {pos : Pos} (h : PE X a (rdE c m)) : PE X (.UnaryOp .USub a pos) (rdE c (mUn fNeg m)) := PEw (pe_un un_neg h) fun _ _ _ q => rd_un us_neg q
def mNil : MA := fun ρ => .ok ([], ρ)
def mCons (a : ME) (b : MA) : MA := fun ρ => (a ρ).bind fun x ρ1 => (b ρ1).bind fun xs ρ2 => .ok (x :: xs, ρ2)
theorem ma_nil : PA X [] (rdA c mNil) := PAw pa_nil fun σ H Q h => by
  obtain ⟨F, Hk, bp, ρ, S, h⟩ := h
  exact h _ _ _ (Ex.refl _) S.1 (RVs.nil.mpr rfl)
theorem ma_cons {e : Expr} {es : List Expr} {a : ME} {b : MA} (ha : PE X e (rdE c a)) (hb : PA X es (rdA c b)) (hs : starEach (e :: es) X.env = (false, eval e X.env) :: starEach es X.env := by rfl) : PA X (e :: es) (rdA c (mCons a b)) :=
  PAw (pa_cons ha hb hs) fun σ H Q h => by
    obtain ⟨F, Hk, bp, ρ, S, h⟩ := h
    refine rdw (bE postA S h) fun v H1 ⟨Hk1, x, ρ1, x1, S1, r1, h1⟩ => ?_
    refine rdAw (bA postA S1 h1) fun vs H2 ⟨Hk2, xs, ρ2, x2, S2, r2, h2⟩ => ?_
    exact h2 _ _ _ (Ex.refl _) S2.1 (RVs.cons.mpr ⟨v, vs, rfl, RV.mono x2 _ _ r1, r2⟩)
def mTup (a : MA) : ME := fun ρ => (a ρ).bind fun xs ρ1 => if szOk xs.length then .ok (.tup xs, ρ1) else .stuck
def mLst (a : MA) : ME := fun ρ => (a ρ).bind fun xs ρ1 => if szOk xs.length then .ok (.lst xs, ρ1) else .stuck
def mLstO (a : MA) : ME := fun ρ => (a ρ).bind fun xs ρ1 => if szOk xs.length then .ok (.own xs, ρ1) else .stuck
theorem me_tup {es : List Expr} {a : MA} {pos : Pos} {k : Nat} (h : PA X es (rdA c a)) : PE X (.Tuple es k pos) (rdE c (mTup a)) := PEw (pe_tup h) fun σ H Q h => by
  obtain ⟨F, Hk, bp, ρ, S, h⟩ := h
  refine rdAw (bA postE S h) fun vs H1 ⟨Hk1, xs, ρ1, x1, S1, r1, h1⟩ => ?_
  split at h1
  · rename_i hz
    refine ⟨by rw [r1.length]; exact szOk_iff.mp hz, fun p hp => h1 _ _ _ (Ex.new (S1.1.ex.back hp)) (S1.1.new hp) (RV.tup.mpr ⟨p, vs, rfl, SqT.of upd_same, r1.mono (Ex.new (S1.1.ex.back hp))⟩)⟩
  · exact h1.elim
theorem me_lst {es : List Expr} {a : MA} {pos : Pos} (h : PA X es (rdA c a)) : PE X (.List es pos) (rdE c (mLst a)) := PEw (pe_lst h) fun σ H Q h => by
  obtain ⟨F, Hk, bp, ρ, S, h⟩ := h
  refine rdAw (bA postE S h) fun vs H1 ⟨Hk1, xs, ρ1, x1, S1, r1, h1⟩ => ?_
  split at h1
  · rename_i hz
    refine ⟨by rw [r1.length]; exact szOk_iff.mp hz, fun p hp => h1 _ _ _ (Ex.new (S1.1.ex.back hp)) (S1.1.new hp) (RV.lst.mpr ⟨p, vs, rfl, upd_same, r1.mono (Ex.new (S1.1.ex.back hp))⟩)⟩
  · exact h1.elim
theorem mo_lst {es : List Expr} {a : MA} {pos : Pos} (h : PA X es (rdA c a)) : PE X (.List es pos) (rdO c (mLstO a)) := PEw (pe_lst h) fun σ H Q h => by
  obtain ⟨F, Hk, bp, ρ, S, h⟩ := h
  refine rdAw (bA postO S h) fun vs H1 ⟨Hk1, xs, ρ1, x1, S1, r1, h1⟩ => ?_
  split at h1
  · rename_i hz
    exact ⟨by rw [r1.length]; exact szOk_iff.mp hz, fun p hp => h1 _ _ _ (Ex.refl _) (S1.1.pushOwn hp r1)⟩
  · exact h1.elim
theorem me_ix {a b : Expr} {ma mb : ME} {pos : Pos} (ha : PE X a (rdE c ma)) (hb : PE X b (rdE c mb)) (hK : c.K = X.K := by rfl) (hs : PlainIx b := by exact fun _ _ => rfl) : PE X (.Subscript a b pos) (rdE c (mOp fIx ma mb)) :=
  PEw (pe_ix ix_seq ha hb hs) fun _ _ _ q => rd_op (by rw [hK]; exact os_ix) q
theorem flat_rv {K : PySem.W.Frag} {H H' : Hp} {z : MV} {u : V} (h : flatM z = true) (r : RV K H z u) : RV K H' z u := by
  unfold flatM at h
  split at h <;> first | (cases h; done) | skip
  · rw [RV.non] at r ⊢; exact r
  · rw [RV.bl] at r ⊢; exact r
  · rw [RV.int] at r ⊢; exact r
  · rw [RV.str] at r ⊢; exact r
def has (ρ : Env) (i : Nat) : Bool := match ρ[i]? with | some (some _) => true | _ => false
theorem has_rs {F Hk H : Hp} {bp : List (Nat × Addr)} {σ : St} {ρ : Env} {i : Nat} (S : At c F Hk H bp σ ρ) (e : has ρ i = true) : ∃ v, σ[i]? = some (some v) := by
  unfold has at e
  split at e
  · rename_i x h
    obtain ⟨ow, s⟩ := S.1.ow
    obtain ⟨v, ev, _⟩ := s.s i x h
    exact ⟨v, ev⟩
  · cases e
def ixL (xs : List MV) : MV → Option MV
  | .int k => atI xs k
  | _ => none
def ixV (ρ : Env) (i : Nat) (y : MV) : Option MV := match ρ[i]? with
  | some (some (.own xs)) => ixL xs y
  | some (some x) => if x.per then fIx x y else none
  | _ => none
def mIxV (i : Nat) (b : ME) : ME := fun ρ => if has ρ i then (b ρ).bind fun y ρ1 => match ixV ρ1 i y with | some z => .ok (z, ρ1) | none => .stuck else .stuck
theorem rd_ixV {i : Nat} {b : ME} {σ : St} {H : Hp} {Q : VK} (h : rdE c (mIxV i b) σ H Q) : tOp (rIx c.K) (tVar i) (rdE c b) σ H Q := by
  obtain ⟨F, Hk, bp, ρ, S, h⟩ := h
  unfold mIxV at h
  split at h
  · rename_i hh
    obtain ⟨v, ev⟩ := has_rs S hh
    refine ⟨v, ev, ?_⟩
    refine rdw (bE postE S h) fun w H1 ⟨Hk1, y, ρ1, x1, S1, r1, h1⟩ => ?_
    cases e : ixV ρ1 i y with
    | none => rw [e] at h1; exact h1.elim
    | some z =>
      rw [e] at h1
      unfold ixV at e
      split at e
      · rename_i xs hx
        obtain ⟨p, vs, e1, e2, e3, e4, e5⟩ := S1.1.getOwn hx
        rw [ev] at e1
        cases e1
        unfold ixL at e
        split at e
        · obtain ⟨u, eu, ru⟩ := atI_rv e3 e
          exact .inl ⟨p, vs, _, u, rfl, RV.int.mp r1, SqL.of e2, eu, h1 _ _ u (Ex.refl _) S1.1 ru⟩
        · cases e
      · rename_i x n hx
        split at e
        · rename_i hp
          obtain ⟨w2, e1, r2⟩ := S1.1.get hx hp
          rw [ev] at e1
          cases e1
          exact os_ix _ _ _ _ _ Hk1 H1 Q e S1.1.ex r2 r1 (fun u ru => h1 _ _ u (Ex.refl _) S1.1 ru) fun p ob hp' ru => h1 _ _ _ (Ex.new (S1.1.ex.back hp')) (S1.1.new hp') ru
        · cases e
      · cases e
  · exact h.elim
theorem me_ixV {i : Nat} {x : Str} {b : Expr} {mb : ME} {pos pos' : Pos} (hN : X.N[i]? = some x) (hv : Vis X.env.scope x) (hb : PE X b (rdE c mb)) (hK : c.K = X.K := by rfl) (hs : PlainIx b := by exact fun _ _ => rfl) (hd : (x == ("__debug__" : Str)) = false := by decide) (hcd : (x == ("__classdict__" : Str)) = false := by decide) :
    PE X (.Subscript (.Name x pos') b pos) (rdE c (mIxV i mb)) := PEw (pe_ix ix_seq (pe_var hN hv hd hcd) hb hs) fun _ _ _ q => by rw [← hK]; exact rd_ixV q
def mNo : Env → Res (Option Int × Env) := fun ρ => .ok (none, ρ)
def mPart (a : ME) : Env → Res (Option Int × Env) := fun ρ => (a ρ).bind fun x ρ1 => match x with | .int i => .ok (some i, ρ1) | _ => .stuck
def okP (c : Ct) (F Hk : Hp) (bp : List (Nat × Addr)) (σ : St) (Q : Option Int → Hp → Prop) : Res (Option Int × Env) → Prop
  | .ok (x, ρ') => ∀ Hk' H', Ex Hk Hk' → RS c.K F Hk' H' bp σ ρ' → Q x H'
  | .exc e ρ' => Wish c F Hk bp σ e ρ'
  | .stuck => False
theorem okP.mono {F Hk Hk' : Hp} {bp : List (Nat × Addr)} {σ : St} {Q : Option Int → Hp → Prop} {r : Res (Option Int × Env)} (x : Ex Hk Hk') (h : okP c F Hk bp σ Q r) : okP c F Hk' bp σ Q r := by
  cases r with
  | ok a => exact fun Hk2 H2 x2 => h Hk2 H2 (x.trans x2)
  | exc e ρ => exact Wish.mono x h
  | stuck => exact h
theorem postP {F : Hp} {bp : List (Nat × Addr)} {σ : St} {Q : Option Int → Hp → Prop} : Post c F bp σ fun Hk r => okP c F Hk bp σ Q r := ⟨fun _ _ _ h => h, fun _ h => h, fun _ _ _ x h => okP.mono x h⟩
def rdP (c : Ct) (m : Env → Res (Option Int × Env)) : TO := fun σ H Q => ∃ F Hk bp ρ, At c F Hk H bp σ ρ ∧ okP c F Hk bp σ Q (m ρ)
theorem POw {e : Option Expr} {t t' : TO} (h : PO X e t) (w : ∀ σ H Q, t' σ H Q → t σ H Q) : PO X e t' := ⟨fun pins s σ H Q I q => h.run pins s σ H Q I (w σ H Q q)⟩
theorem mp_none : PO X none (rdP c mNo) := POw po_none fun σ H Q ⟨F, Hk, bp, ρ, S, h⟩ => h _ _ (Ex.refl _) S.1
theorem mp_some {e : Expr} {m : ME} (h : PE X e (rdE c m)) : PO X (some e) (rdP c (mPart m)) := POw (po_some h) fun σ H Q ⟨F, Hk, bp, ρ, S, h⟩ => rdw (bE postP S h) fun v H1 ⟨Hk1, x, ρ1, x1, S1, r1, h1⟩ => by
  cases x with
  | int i => exact ⟨i, RV.int.mp r1, h1 _ _ (Ex.refl _) S1.1⟩
  | _ => exact h1.elim
theorem bP {F Hk H : Hp} {bp : List (Nat × Addr)} {σ : St} {ρ : Env} {β : Type} {P : Hp → Res (β × Env) → Prop} (p : Post c F bp σ P) {a : Env → Res (Option Int × Env)} {k : Option Int → Env → Res (β × Env)} (S : At c F Hk H bp σ ρ) (h : P Hk ((a ρ).bind k)) :
    rdP c a σ H fun b H1 => ∃ Hk1 ρ1, Ex Hk Hk1 ∧ At c F Hk1 H1 bp σ ρ1 ∧ P Hk1 (k b ρ1) := by
  refine ⟨F, Hk, bp, ρ, S, ?_⟩
  cases e : a ρ with
  | stuck => rw [e] at h; exact p.st _ h
  | exc x ρ' => rw [e] at h; exact p.ex _ _ _ h
  | ok q =>
    rw [e] at h
    exact fun Hk1 H1 x1 S1 => ⟨Hk1, q.2, x1, ⟨S1, S.2⟩, p.mono _ _ _ x1 h⟩
def cutM (xs : List MV) (lo hi : Option Int) : List MV := (xs.drop (HT.sIx xs.length 0 lo)).take (HT.sIx xs.length xs.length hi - HT.sIx xs.length 0 lo)
theorem RVs.cut {K : PySem.W.Frag} {H : Hp} {xs : List MV} {vs : List V} (r : RVs K H xs vs) (lo hi : Option Int) : RVs K H (cutM xs lo hi) (cutV vs lo hi) := by
  unfold cutM cutV
  rw [r.length]
  exact (r.drop _).take _
def fSl : MV → Option Int → Option Int → Option MV
  | .lst xs, lo, hi => some (.lst (cutM xs lo hi))
  | .tup xs, lo, hi => some (.tup (cutM xs lo hi))
  | .str z, lo, hi => if szOk z.length then some (.str (cutS z lo hi)) else none
  | _, _, _ => none
def rSlM (K : PySem.W.Frag) : V → Option Int → Option Int → Hp → VK → Prop := fun x lo hi H Q => rSlL K x lo hi H Q ∨ rSlA K x lo hi H Q ∨ rSlS x lo hi H Q
theorem sl_M : SlR X (rSlM X.K) := SlR.or sl_list (SlR.or sl_tupA sl_str)
theorem whole_cut {xs : List MV} {lo hi : Option Int} (h : HT.sIx xs.length 0 lo = 0 ∧ HT.sIx xs.length xs.length hi = xs.length) : cutM xs lo hi = xs := by
  unfold cutM
  rw [h.1, h.2]
  simp
theorem os_sl {K : PySem.W.Frag} {x z : MV} {lo hi : Option Int} {v : V} {Hk H : Hp} {Q : VK} (e : fSl x lo hi = some z) (ex : Ex Hk H) (r1 : RV K Hk x v) (q : ∀ u, RV K Hk z u → Q u H)
    (qn : ∀ p o, H p = none → RV K (upd Hk p o) z (.ref p) → Q (.ref p) (upd H p o)) : rSlM K v lo hi H Q := by
  unfold fSl at e
  split at e
  · cases e
    obtain ⟨p1, vs, rfl, h1, s1⟩ := RV.lst.mp r1
    refine .inl ⟨p1, vs, rfl, SqL.of (ex _ _ h1), fun p hp => qn p _ hp ?_⟩
    exact RV.lst.mpr ⟨p, _, rfl, upd_same, (s1.cut lo hi).mono (Ex.new (ex.back hp))⟩
  · cases e
    obtain ⟨p1, vs, rfl, h1, s1⟩ := RV.tup.mp r1
    refine .inr (.inl ⟨p1, vs, rfl, ex_t ex h1, fun hw => ?_, fun hw p hp => qn p _ hp ?_⟩)
    · rw [s1.length] at hw
      rw [whole_cut hw] at q
      exact q _ r1
    · exact RV.tup.mpr ⟨p, _, rfl, SqT.of upd_same, (s1.cut lo hi).mono (Ex.new (ex.back hp))⟩
  · split at e
    · rename_i hz
      cases e
      exact .inr (.inr ⟨_, RV.str.mp r1, szOk_iff.mp hz, q _ (RV.str.mpr rfl)⟩)
    · cases e
  · cases e
def mSl (a : ME) (l h : Env → Res (Option Int × Env)) : ME := fun ρ => (a ρ).bind fun x ρ1 => (l ρ1).bind fun i ρ2 => (h ρ2).bind fun j ρ3 => match fSl x i j with | some z => .ok (z, ρ3) | none => .stuck
theorem rd_sl {a : ME} {l h' : Env → Res (Option Int × Env)} {σ : St} {H : Hp} {Q : VK} (h : rdE c (mSl a l h') σ H Q) : tSl (rSlM c.K) (rdE c a) (rdP c l) (rdP c h') σ H Q := by
  obtain ⟨F, Hk, bp, ρ, S, h⟩ := h
  refine rdw (bE postE S h) fun v H1 ⟨Hk1, x, ρ1, x1, S1, r1, h1⟩ => ?_
  have w : ∀ {m : Env → Res (Option Int × Env)} {σ : St} {H : Hp} {Q Q' : Option Int → Hp → Prop}, rdP c m σ H Q → (∀ v H, Q v H → Q' v H) → rdP c m σ H Q' := fun {m σ H Q Q'} ⟨F, Hk, bp, ρ, S, q⟩ w => ⟨F, Hk, bp, ρ, S, by
    cases e : m ρ with
    | ok a => rw [e] at q; exact fun Hk2 H2 x S => w _ _ (q Hk2 H2 x S)
    | exc e' ρ => rw [e] at q; exact q
    | stuck => rw [e] at q; exact q⟩
  refine w (bP postE S1 h1) fun i H2 ⟨Hk2, ρ2, x2, S2, h2⟩ => ?_
  refine w (bP postE S2 h2) fun j H3 ⟨Hk3, ρ3, x3, S3, h3⟩ => ?_
  have h3 : okE c F Hk3 bp σ Q (match fSl x i j with | some z => .ok (z, ρ3) | none => .stuck) := h3
  cases e : fSl x i j with
  | none => rw [e] at h3; exact h3.elim
  | some z =>
    rw [e] at h3
    exact os_sl e S3.1.ex (RV.mono (x2.trans x3) _ _ r1) (fun u ru => h3 _ _ u (Ex.refl _) S3.1 ru) fun p ob hp ru => h3 _ _ _ (Ex.new (S3.1.ex.back hp)) (S3.1.new hp) ru
theorem me_sl {a : Expr} {lo hi : Option Expr} {ma : ME} {ml mh : Env → Res (Option Int × Env)} {pos p2 : Pos} (ha : PE X a (rdE c ma)) (hl : PO X lo (rdP c ml)) (hh : PO X hi (rdP c mh)) (hK : c.K = X.K := by rfl) : PE X (.Subscript a (.Slice lo hi none p2) pos) (rdE c (mSl ma ml mh)) :=
  PEw (pe_slice sl_M ha hl hh) fun _ _ _ q => by rw [← hK]; exact rd_sl q
section
variable {a b : Expr} {ma mb : ME} {pos : Pos}
theorem me_add (ha : PE X a (rdE c ma)) (hb : PE X b (rdE c mb)) (hK : c.K = X.K := by rfl) : PE X (.BinOp a .Add b pos) (rdE c (mOp fAdd ma mb)) := me_op op_addM (by rw [← hK]; exact os_add) ha hb
theorem me_sub (ha : PE X a (rdE c ma)) (hb : PE X b (rdE c mb)) : PE X (.BinOp a .Sub b pos) (rdE c (mOp fSub ma mb)) := me_op op_sub os_sub ha hb
theorem me_mul (ha : PE X a (rdE c ma)) (hb : PE X b (rdE c mb)) (hK : c.K = X.K := by rfl) : PE X (.BinOp a .Mult b pos) (rdE c (mOp fMul ma mb)) := me_op op_mulM (by rw [← hK]; exact os_mul) ha hb
theorem me_div (ha : PE X a (rdE c ma)) (hb : PE X b (rdE c mb)) : PE X (.BinOp a .FloorDiv b pos) (rdE c (mOp fDiv ma mb)) := me_op op_divM os_div ha hb
theorem me_mod (ha : PE X a (rdE c ma)) (hb : PE X b (rdE c mb)) : PE X (.BinOp a .Mod b pos) (rdE c (mOp fMod ma mb)) := me_op op_modN os_mod ha hb
theorem me_pow (ha : PE X a (rdE c ma)) (hb : PE X b (rdE c mb)) : PE X (.BinOp a .Pow b pos) (rdE c (mOp fPow ma mb)) := me_op op_pow os_pow ha hb
theorem me_bitand (ha : PE X a (rdE c ma)) (hb : PE X b (rdE c mb)) : PE X (.BinOp a .BitAnd b pos) (rdE c (mOp fAnd ma mb)) := me_op op_and os_and ha hb
theorem me_bitor (ha : PE X a (rdE c ma)) (hb : PE X b (rdE c mb)) : PE X (.BinOp a .BitOr b pos) (rdE c (mOp fOr ma mb)) := me_op op_or os_or ha hb
end
end
end Tm
set_option Elab.async false
set_option linter.all false
set_option maxRecDepth 100000
set_option maxHeartbeats 2000000
namespace Tm
open PySem L2
open Evl (Ex ex_rd ex_l ex_t)
section
variable {X : Cx} {c : Ct}
abbrev MG := MV → Env → Option Env
def okG (c : Ct) (F Hk : Hp) (bp : List (Nat × Addr)) (Q : St → Hp → Prop) : Option Env → Prop
  | some ρ' => ∀ Hk' H' σ', Ex Hk Hk' → RS c.K F Hk' H' bp σ' ρ' → Q σ' H'
  | none => False
def rdG (c : Ct) (m : MG) : TG := fun v σ H Q => ∃ F Hk bp ρ x, At c F Hk H bp σ ρ ∧ RV c.K Hk x v ∧ okG c F Hk bp Q (m x ρ)
def rdGs (c : Ct) (m : List MV → Env → Option Env) : TGs := fun vs σ H Q => ∃ F Hk bp ρ xs, At c F Hk H bp σ ρ ∧ RVs c.K Hk xs vs ∧ okG c F Hk bp Q (m xs ρ)
theorem PGw {e : Expr} {t t' : TG} (h : PG X e t) (w : ∀ v σ H Q, t' v σ H Q → t v σ H Q) : PG X e t' := ⟨fun pins s σ H v u Q I r q => h.run pins s σ H v u Q I r (w v σ H Q q)⟩
theorem PGsw {e : List Expr} {t t' : TGs} (h : PGs X e t) (w : ∀ v σ H Q, t' v σ H Q → t v σ H Q) : PGs X e t' := ⟨fun pins s σ H v u Q I r q => h.run pins s σ H v u Q I r (w v σ H Q q)⟩
def gSet (i : Nat) : MG := fun x ρ => if i < ρ.length then some (ρ.set i (some x)) else none
theorem nb {bp : List (Nat × Addr)} {bs : List Nat} {i : Nat} (e : bp.map (·.1) = bs) (h : bs.contains i = false) : ∀ q ∈ bp, q.1 ≠ i := fun q hq z => by
  have m : i ∈ bs := by rw [← e, ← z]; exact List.mem_map.mpr ⟨q, hq, rfl⟩
  rw [List.contains_eq_mem] at h
  simp [m] at h
theorem rd_gname {i : Nat} (hb : c.bs.contains i = false) {v : V} {σ : St} {H : Hp} {Q : St → Hp → Prop} (h : rdG c (gSet i) v σ H Q) : gName i v σ H Q := by
  obtain ⟨F, Hk, bp, ρ, y, S, r, h⟩ := h
  unfold gSet at h
  split at h
  · rename_i hl
    exact h _ _ _ (Ex.refl _) (S.1.set hl r (nb S.2.1 hb))
  · exact h.elim
theorem mg_name {i : Nat} {x : Str} {pos : Pos} (hN : X.N.Nodup) (hi : X.N[i]? = some x) (hx : Loc X.env.scope x) (hb : c.bs.contains i = false := by rfl) (hf : X.fn x = true ∨ X.env.scope.names.lookup x = some .local := by first | exact .inl rfl | exact .inr rfl | assumption) : PG X (.Name x pos) (rdG c (gSet i)) :=
  PGw (pg_name hN hi hx hf) fun v σ H Q h => rd_gname hb h
def gsNil : List MV → Env → Option Env := fun xs ρ => match xs with | [] => some ρ | _ => none
def gsCons (a : MG) (b : List MV → Env → Option Env) : List MV → Env → Option Env := fun xs ρ => match xs with
  | x :: r => (match a x ρ with | some ρ1 => b r ρ1 | none => none)
  | [] => none
def gTp (n : Nat) (b : List MV → Env → Option Env) : MG := fun x ρ => match x with
  | .tup xs => if xs.length = n then b xs ρ else none
  | .lst xs => if xs.length = n then b xs ρ else none
  | _ => none
theorem PGor {e : Expr} {t t' : TG} (h : PG X e t) (g : PG X e t') : PG X e fun v σ H Q => t v σ H Q ∨ t' v σ H Q := ⟨fun pins s σ H v u Q I r q => by
  rcases q with q | q
  · exact h.run pins s σ H v u Q I r q
  · exact g.run pins s σ H v u Q I r q⟩
theorem mgs_nil : PGs X [] (rdGs c gsNil) := PGsw pgs_nil fun vs σ H Q ⟨F, Hk, bp, ρ, xs, S, r, h⟩ => by
  cases xs with
  | nil => exact ⟨RVs.nil.mp r, h _ _ _ (Ex.refl _) S.1⟩
  | cons x xs => exact h.elim
theorem mgs_cons {e : Expr} {es : List Expr} {a : MG} {b : List MV → Env → Option Env} (h1 : PG X e (rdG c a)) (h2 : PGs X es (rdGs c b)) (hs : (assignEach (e :: es) X.env).map (·.2) = assign e X.env :: (assignEach es X.env).map (·.2) := by rfl) : PGs X (e :: es) (rdGs c (gsCons a b)) := PGsw (pgs_cons h1 h2 hs) fun vs σ H Q ⟨F, Hk, bp, ρ, xs, S, r, h⟩ => by
  cases xs with
  | nil => exact h.elim
  | cons x xs =>
    obtain ⟨v, us, rfl, r1, r2⟩ := RVs.cons.mp r
    refine ⟨v, us, rfl, F, Hk, bp, ρ, x, S, r1, ?_⟩
    have h : okG c F Hk bp Q (match a x ρ with | some ρ1 => b xs ρ1 | none => none) := h
    cases e : a x ρ with
    | none => rw [e] at h; exact h
    | some ρ1 =>
      rw [e] at h
      intro Hk1 H1 σ1 x1 S1
      refine ⟨F, Hk1, bp, ρ1, xs, ⟨S1, S.2⟩, r2.mono x1, ?_⟩
      have h : okG c F Hk bp Q (b xs ρ1) := h
      cases e2 : b xs ρ1 with
      | none => rw [e2] at h; exact h
      | some ρ2 => rw [e2] at h; exact fun Hk2 H2 σ2 x2 => h Hk2 H2 σ2 (x1.trans x2)
theorem mg_tup {es : List Expr} {k : Nat} {b : List MV → Env → Option Env} {n : Nat} {pos : Pos} (hc : X.calm = true) (h : PGs X es (rdGs c b)) (hK : c.K = X.K := by rfl)
    (hn : (assignEach es X.env).length = n := by rfl) (hst : (assignEach es X.env).findIdx? (·.1) = none := by rfl) : PG X (.Tuple es k pos) (rdG c (gTp n b)) := PGw (PGor (pg_tup hc h hn hst) (pg_unl hc h hn hst)) fun v σ H Q ⟨F, Hk, bp, ρ, x, S, r, h⟩ => by
  unfold gTp at h
  split at h
  · split at h
    · rename_i xs hl
      obtain ⟨a, vs, rfl, h1, s1⟩ := RV.tup.mp r
      rw [← hK]
      exact .inl ⟨a, vs, rfl, ex_t S.1.ex h1, by rw [s1.length]; exact hl, F, Hk, bp, ρ, xs, S, s1, h⟩
    · exact h.elim
  · split at h
    · rename_i xs hl
      obtain ⟨a, vs, rfl, h1, s1⟩ := RV.lst.mp r
      rw [← hK]
      exact .inr ⟨a, vs, rfl, SqL.of (S.1.ex _ _ h1), by rw [s1.length]; exact hl, F, Hk, bp, ρ, xs, S, s1, h⟩
    · exact h.elim
  · exact h.elim
def mAsg (a : ME) (g : MG) : MS := fun ρ => (a ρ).bind fun x ρ1 => match g x ρ1 with | some ρ2 => .ok (.nx, ρ2) | none => .stuck
theorem rd_asg {a : ME} {g : MG} {D : Ends} {σ : St} {H : Hp} (h : rdS c (mAsg a g) D σ H) : tAsg (rdE c a) (rdG c g) D σ H := by
  obtain ⟨F, Hk, bp, ρ, S, h⟩ := h
  refine rdw (bE (postS (σ := σ)) S h) fun v H1 ⟨Hk1, x, ρ1, x1, S1, r1, h1⟩ => ⟨F, Hk1, bp, ρ1, x, S1, r1, ?_⟩
  have h1 : okS c F Hk1 bp D (match g x ρ1 with | some ρ2 => .ok (.nx, ρ2) | none => .stuck) := h1
  cases e : g x ρ1 with
  | none => rw [e] at h1; exact h1
  | some ρ2 => rw [e] at h1; exact h1
theorem ms_asg {tg e : Expr} {a : ME} {g : MG} {pos : Pos} (he : PE X e (rdE c a)) (hg : PG X tg (rdG c g)) (hs : swapsWithSole [tg] e pos.line X.env = pure false := by rfl) (hw : swappedStores [tg] e X.env = pure none := by rfl)
    (h1 : (assignEach [tg] X.env).map (·.2) = [assign tg X.env] := by rfl) : PS X (.Assign [tg] e pos) (rdS c (mAsg a g)) := PSw (ps_asg he hg hs hw h1) fun _ _ _ h => rd_asg h
theorem rd_set {i : Nat} (hb : c.bs.contains i = false) {a : ME} {D : Ends} {σ : St} {H : Hp} (h : rdS c (mAsg a (gSet i)) D σ H) : tAsg (rdE c a) (gName i) D σ H := rdw (rd_asg h) fun _ _ q => rd_gname hb q
theorem ms_set {i : Nat} {x : Str} {e : Expr} {a : ME} {pos pos' : Pos} (hN : X.N.Nodup) (hi : X.N[i]? = some x) (hx : Loc X.env.scope x) (he : PE X e (rdE c a)) (hb : c.bs.contains i = false := by rfl) (hs : swapsWith e (some (.Name x pos')) pos.line X.env = pure false := by rfl)
    (hf : X.fn x = true ∨ X.env.scope.names.lookup x = some .local := by first | exact .inl rfl | exact .inr rfl | assumption) : PS X (.Assign [.Name x pos'] e pos) (rdS c (mAsg a (gSet i))) := PSw (ps_set hN hi hx he hs hf) fun _ _ _ h => rd_set hb h
def mSetO (i : Nat) (a : ME) : MS := fun ρ => (a ρ).bind fun x ρ1 => if i < ρ1.length then .ok (.nx, ρ1.set i (some x)) else .stuck
theorem rd_setO {i : Nat} {a : ME} {D : Ends} {σ : St} {H : Hp} (hb : c.bs.contains i = false) (h : rdS c (mSetO i a) D σ H) : tAsg (rdO c a) (gName i) D σ H := by
  obtain ⟨F, Hk, bp, ρ, S, h⟩ := h
  refine rdOw (bO (postS (σ := σ)) S h) fun v H1 ⟨Hk1, x, ρ1, x1, S1, h1⟩ => ?_
  split at h1
  · rename_i hl
    refine h1 _ _ _ (Ex.refl _) (S1.take hl fun q hq => ⟨nb S.2.1 hb q hq, ?_⟩)
    have l1 : σ.length = ρ1.length := by have := S1.len; simpa using this
    rw [← l1]
    exact lt_get (S.1.bor q hq)
  · exact h1.elim
theorem ms_setO {i : Nat} {x : Str} {e : Expr} {a : ME} {pos pos' : Pos} (hN : X.N.Nodup) (hi : X.N[i]? = some x) (hx : Loc X.env.scope x) (he : PE X e (rdO c a)) (hb : c.bs.contains i = false := by rfl) (hs : swapsWith e (some (.Name x pos')) pos.line X.env = pure false := by rfl)
    (hf : X.fn x = true ∨ X.env.scope.names.lookup x = some .local := by first | exact .inl rfl | exact .inr rfl | assumption) : PS X (.Assign [.Name x pos'] e pos) (rdS c (mSetO i a)) := PSw (ps_set hN hi hx he hs hf) fun _ _ _ h => rd_setO hb h
def mPass : MS := fun ρ => .ok (.nx, ρ)
def mSeq (a b : MS) : MS := fun ρ => (a ρ).bind fun f ρ1 => match f with | .nx => b ρ1 | f => .ok (f, ρ1)
theorem okS.seq {F Hk : Hp} {bp : List (Nat × Addr)} {D : Ends} {b : MS} (eb : bp.map (·.1) = c.bs ∧ c.J F bp) {r : Res (Fl × Env)} (h : okS c F Hk bp D (r.bind fun f ρ1 => match f with | .nx => b ρ1 | f => .ok (f, ρ1))) : okS c F Hk bp { D with nx := rdS c b D } r := by
  cases r with
  | stuck => exact h
  | exc e ρ => exact h
  | ok q =>
    obtain ⟨f, ρ1⟩ := q
    cases f with
    | nx => exact fun Hk1 H1 σ1 x1 S1 => ⟨F, Hk1, bp, ρ1, ⟨S1, eb⟩, okS.mono x1 h⟩
    | br => exact h
    | ct => exact h
    | rt x => exact h
theorem rd_seq {a b : MS} {D : Ends} {σ : St} {H : Hp} (h : rdS c (mSeq a b) D σ H) : tSeq (rdS c a) (rdS c b) D σ H := by
  obtain ⟨F, Hk, bp, ρ, S, h⟩ := h
  exact ⟨F, Hk, bp, ρ, S, okS.seq S.2 h⟩
theorem mss_nil : PSs X [] (rdS c mPass) := PSsw pss_nil fun D σ H ⟨F, Hk, bp, ρ, S, h⟩ => h _ _ _ (Ex.refl _) S.1
theorem mss_one {st : Stmt} {a : MS} (h : PS X st (rdS c a)) : PSs X [st] (rdS c a) := pss_one h
theorem mss_cons {st : Stmt} {r : List Stmt} {a b : MS} (h : PS X st (rdS c a)) (g : PSs X r (rdS c b)) : PSs X (st :: r) (rdS c (mSeq a b)) := PSsw (pss_cons h g) fun _ _ _ q => rd_seq q
def mIfS (t : MT) (a b : MS) : MS := fun ρ => (t ρ).bind fun x ρ1 => if x then a ρ1 else b ρ1
theorem ms_if {t : Expr} {a b : List Stmt} {mt : MT} {ma mb : MS} {pos : Pos} (ht : PT X t (rdT c mt)) (ha : PSs X a (rdS c ma)) (hb : PSs X b (rdS c mb)) : PS X (.If t a b pos) (rdS c (mIfS mt ma mb)) := PSw (ps_if ht ha hb) fun D σ H ⟨F, Hk, bp, ρ, S, h⟩ => by
  refine rdTw (bT (postS (σ := σ)) S h) fun k H1 ⟨Hk1, ρ1, x1, S1, h1⟩ => ?_
  cases k with
  | true => rw [if_pos rfl] at h1 ⊢; exact ⟨F, Hk1, bp, ρ1, S1, h1⟩
  | false => rw [if_neg (by decide)] at h1 ⊢; exact ⟨F, Hk1, bp, ρ1, S1, h1⟩
def mRet (a : ME) : MS := fun ρ => (a ρ).bind fun x ρ1 => .ok (.rt x, ρ1)
theorem ms_ret {e : Expr} {a : ME} {pos : Pos} (h : PE X e (rdE c a)) : PS X (.Return (some e) pos) (rdS c (mRet a)) := PSw (ps_ret h) fun D σ H ⟨F, Hk, bp, ρ, S, h⟩ =>
  rdw (bE (postS (σ := σ)) S h) fun v H1 ⟨Hk1, x, ρ1, x1, S1, r1, h1⟩ => h1 _ _ _ _ (Ex.refl _) (fun q hq => lt_get (S.1.bor q hq)) (S1.1.push r1)
theorem ms_retO {e : Expr} {a : ME} {pos : Pos} (h : PE X e (rdO c a)) : PS X (.Return (some e) pos) (rdS c (mRet a)) := PSw (ps_ret h) fun D σ H ⟨F, Hk, bp, ρ, S, h⟩ =>
  rdOw (bO (postS (σ := σ)) S h) fun v H1 ⟨Hk1, x, ρ1, x1, S1, h1⟩ => h1 _ _ _ _ (Ex.refl _) (fun q hq => lt_get (S.1.bor q hq)) S1
def mDrop (a : ME) : MS := fun ρ => (a ρ).bind fun _ ρ1 => .ok (.nx, ρ1)
theorem ms_expr {e : Expr} {a : ME} {pos : Pos} (h : PE X e (rdE c a)) (hs : swapsWith e none pos.line X.env = pure false := by rfl) : PS X (.Expr e pos) (rdS c (mDrop a)) := PSw (ps_expr h hs) fun D σ H ⟨F, Hk, bp, ρ, S, h⟩ =>
  rdw (bE (postS (σ := σ)) S h) fun v H1 ⟨Hk1, x, ρ1, x1, S1, r1, h1⟩ => h1 _ _ _ (Ex.refl _) S1.1
def mMove (i : Nat) : ME := fun ρ => match ρ[i]? with
  | some (some (.obj _ _)) => .stuck
  | some (some x) => .ok (x, ρ.set i none)
  | _ => .stuck
theorem rd_move {i : Nat} (hb : c.bs.contains i = false) {σ : St} {H : Hp} {Q : VK} (h : rdO c (mMove i) σ H Q) : tVar i σ H Q := by
  obtain ⟨F, Hk, bp, ρ, S, h⟩ := h
  unfold mMove at h
  split at h
  · exact h.elim
  · rename_i x n hx
    obtain ⟨ow, s⟩ := S.1.ow
    obtain ⟨v, ev, ov⟩ := s.s i x hx
    have li := lt_get hx
    refine ⟨v, ev, h Hk H v (Ex.refl _) ?_⟩
    refine ⟨by simp [S.1.len], S.1.ex, S.1.fr, S.1.frk, ⟨put (put ow i []) ρ.length (ow i), ?_⟩, S.1.bor_app _⟩
    have nl : i ≠ ρ.length := Nat.ne_of_lt li
    have mem : ∀ j a, a ∈ put (put ow i []) ρ.length (ow i) j → (j = ρ.length ∧ a ∈ ow i) ∨ (j ≠ i ∧ j < ρ.length ∧ a ∈ ow j) := fun j a h => by
      by_cases e : j = ρ.length
      · rw [e, put_same] at h; exact .inl ⟨e, h⟩
      · rw [put_ne e] at h
        by_cases e2 : j = i
        · rw [e2, put_same] at h; cases h
        · rw [put_ne e2] at h
          exact .inr ⟨e2, s.w j (by intro z; rw [z] at h; cases h), h⟩
    refine ⟨fun j y hj => ?_, fun j a hj => ?_, fun j hj => ?_, fun j k a hjk hj hk => ?_⟩
    · rcases app_get hj with ⟨e1, e2⟩ | ⟨lt, e2⟩
      · cases e2
        rw [List.length_set] at e1
        refine ⟨v, by rw [e1, ← S.1.len]; simp, ?_⟩
        rw [e1, put_same]; exact ov
      · rcases set_get e2 with ⟨_, e3⟩ | ⟨ne, e3⟩
        · cases e3
        · obtain ⟨w, w1, w2⟩ := s.s j y e3
          have lj := lt_get e3
          exact ⟨w, by rw [List.getElem?_append_left (by rw [S.1.len]; exact lj)]; exact w1, by rw [put_ne (Nat.ne_of_lt lj), put_ne ne]; exact w2⟩
    · rcases mem j a hj with ⟨_, m⟩ | ⟨_, _, m⟩
      · exact s.f i a m
      · exact s.f j a m
    · cases e : put (put ow i []) ρ.length (ow i) j with
      | nil => exact (hj e).elim
      | cons a r =>
        rcases mem j a (by rw [e]; simp) with ⟨e, _⟩ | ⟨_, l, _⟩
        · rw [e]; simp
        · simp; omega
    · rcases mem j a hj with ⟨e1, m⟩ | ⟨e1, l1, m⟩ <;> rcases mem k a hk with ⟨e2, m2⟩ | ⟨e2, l2, m2⟩
      · exact hjk (e1.trans e2.symm)
      · exact s.d i k a (Ne.symm e2) m m2
      · exact s.d j i a e1 m m2
      · exact s.d j k a hjk m m2
  · exact h.elim
theorem mo_var {i : Nat} {x : Str} {pos : Pos} (hN : X.N[i]? = some x) (hv : Vis X.env.scope x) (hb : c.bs.contains i = false := by rfl) (hd : (x == ("__debug__" : Str)) = false := by decide) (hcd : (x == ("__classdict__" : Str)) = false := by decide) : PE X (.Name x pos) (rdO c (mMove i)) :=
  PEw (pe_var hN hv hd hcd) fun _ _ _ h => rd_move hb h
end
end Tm
set_option Elab.async false
set_option linter.all false
set_option maxRecDepth 100000
set_option maxHeartbeats 2000000
namespace Tm
open PySem L2 PySem.Spec PyProof.Rows
structure ZSrc (P : Program) (w : World) (K : PySem.W.Frag) (it : Addr) (fp : List Addr) (S : Hp → List V → Prop) (tn : Nat → Heap → Prop) : Prop where
  obj : ∀ i h, tn i h → ∃ o, h.get? it = some o ∧ ∀ v, o.data ≠ .cell v
  keep : ∀ i h h', tn i h → (∀ o, h.get? it = some o → h'.get? it = some o) → tn i h'
  inj : ∀ (X : Cx), X.K = K → ∀ pins (s : Shared) σ H xs ys, Inv X pins σ H s → S H xs → S H ys → xs = ys
  draw : ∀ (X : Cx), X.prog = P → X.w = w → X.K = K → X.calm = true → ∀ pins (s : Shared) σ H xs i, Inv X pins σ H s → S H xs → tn i s.heap →
    ∃ (Y : Nat → Value → Prop) (St : Nat → Heap → Prop), Draws P w X.A.in1 it fp xs.length Y St ∧ St i s.heap ∧ (∀ j u, Y j u → ∃ x, xs[j]? = some x ∧ RelV x u) ∧ ∀ j h, St j h → tn j h
def ItzG (S1 S2 : Hp → List V → Prop) : It :=
  ⟨fun i H => ∃ (l1 l2 : List V) (x y : V), S1 H l1 ∧ S2 H l2 ∧ l1[i]? = some x ∧ l2[i]? = some y,
    fun i H v H' => ∃ p x y, v = .ref p ∧ H p = none ∧ H' = upd H p (.tup [x, y]) ∧ (∀ l, S1 H l → l[i]? = some x) ∧ ∀ l, S2 H l → l[i]? = some y,
    fun i H => ∃ l1 l2 : List V, S1 H l1 ∧ S2 H l2 ∧ (i = l1.length ∧ l1.length ≤ l2.length ∨ i = l2.length ∧ l2.length ≤ l1.length)⟩
section
variable {P : Program} {w : World} {K : PySem.W.Frag} {elts : List Expr} {kk : Nat} {tpos : Pos} {z TI TO i1 i2 : Addr} {f1 f2 : List Addr} {S1 S2 : Hp → List V → Prop} {tn1 tn2 : Nat → Heap → Prop}
theorem turn_zipG (D : ZipSep2 z TI TO i1 i2 f1 f2) (A1 : ZSrc P w K i1 f1 S1 tn1) (A2 : ZSrc P w K i2 f2 S2 tn2) :
    Turn P w K (.Tuple elts kk tpos) (ItzG S1 S2) [z, TI, TO, i1, i2] z (fun i h => (IsZip h z TI TO .none ∧ IsTupOf2 h TI (.ref i1) (.ref i2) ∧ ∃ x y, IsTupOf2 h TO x y) ∧ tn1 i h ∧ tn2 i h) where
  mem := List.mem_cons_self ..
  obj := by
    rintro i h ⟨⟨gz, gT, p0, q0, gO⟩, t1, t2⟩ c hc
    simp only [List.mem_cons, List.not_mem_nil, or_false] at hc
    rcases hc with rfl | rfl | rfl | rfl | rfl
    · exact ⟨_, gz, by intro v e; cases e⟩
    · exact ⟨_, gT, by intro v e; cases e⟩
    · exact ⟨_, gO, by intro v e; cases e⟩
    · exact A1.obj i h t1
    · exact A2.obj i h t2
  keep := by
    rintro i h h' ⟨⟨gz, gT, p0, q0, gO⟩, t1, t2⟩ hk
    exact ⟨⟨hk z (by simp) _ gz, hk TI (by simp) _ gT, p0, q0, hk TO (by simp) _ gO⟩, A1.keep i h h' t1 (hk i1 (by simp)), A2.keep i h h' t2 (hk i2 (by simp))⟩
  item := by
    intro X hP hw hK hc i pins s σ H E I hf st hg
    subst hP; subst hw; subst hK
    obtain ⟨⟨gz, gT, p0, q0, gO⟩, t1, t2⟩ := st
    obtain ⟨l1, l2, x, y, b1, b2, g1, g2⟩ := hg
    obtain ⟨Y1, St1, d1, e1, r1, k1⟩ := A1.draw X rfl rfl rfl hc pins s σ H l1 i I b1 t1
    obtain ⟨Y2, St2, d2, e2, r2, k2⟩ := A2.draw X rfl rfl rfl hc pins s σ H l2 i I b2 t2
    have m1 : i < l1.length := (List.getElem?_eq_some_iff.mp g1).1
    have m2 : i < l2.length := (List.getElem?_eq_some_iff.mp g2).1
    have zlt : z < s.heap.objs.size := Heap.lt_size gz
    refine wpAny_pyNext_zipD2_item D d1 d2 gz gT gO e1 e2 m1 m2 fun u1 u2 hp tk y1 y2 gz' gO' e1' e2' gN sz hk => ⟨_, rfl, ?_⟩
    obtain ⟨x', a1, v1⟩ := r1 i u1 y1
    obtain ⟨y', a2, v2⟩ := r2 i u2 y2
    rw [g1] at a1
    rw [g2] at a2
    cases a1
    cases a2
    refine wpAny_letOwnedTupleGo_zip (s := { s with heap := hp, toks := tk }) gz' fun hq gq sb => ?_
    have keep : ∀ c o, c ∉ [z, TI, TO, i1, i2] → s.heap.get? c = some o → hq.get? c = some o := by
      intro c o nc ec
      simp only [List.mem_cons, List.not_mem_nil, or_false, not_or] at nc
      exact (sb.2 c nc.1).trans (hk c o nc.1 nc.2.2.1 nc.2.2.2.1 nc.2.2.2.2 ec)
    have gT2 : IsTupOf2 hq s.heap.objs.size u1 u2 := (sb.2 _ (Nat.ne_of_gt zlt)).trans gN
    have new : ObjOk X.prog X.w (upd H s.heap.objs.size (.tup [x, y])) hq s.heap.objs.size (.tup [x, y]) :=
      ⟨by show 2 ≤ sizeLine; decide, [u1, u2], .cons v1 (.cons v2 .nil), ⟨_, gT2, rfl, _, rfl⟩⟩
    have I1 : Inv X pins σ (upd H s.heap.objs.size (.tup [x, y])) { s with heap := hq, toks := tk } := Inv.turnedNew I keep hf (Nat.le_refl _) new
    refine ⟨.ref s.heap.objs.size, _, I1, rfl, ⟨_, x, y, rfl, I.hok.fresh (Nat.le_refl _), rfl, fun l hl => ?_, fun l hl => ?_⟩, ⟨⟨gq, ?_, u1, u2, ?_⟩, ?_, ?_⟩, ?_⟩
    · rw [A1.inj X rfl pins s σ H l l1 I hl b1]; exact g1
    · rw [A2.inj X rfl pins s σ H l l2 I hl b2]; exact g2
    · exact (sb.2 TI D.TIz).trans (hk TI _ D.TIz D.TITO D.TIi1 D.TIi2 gT)
    · exact (sb.2 TO D.TOz).trans gO'
    · exact A1.keep _ hp hq (k1 _ _ e1') fun o e => (sb.2 i1 (Ne.symm D.zi1)).trans e
    · exact A2.keep _ hp hq (k2 _ _ e2') fun o e => (sb.2 i2 (Ne.symm D.zi2)).trans e
    · intro c hcm
      have clt : c < s.heap.objs.size := by
        simp only [List.mem_cons, List.not_mem_nil, or_false] at hcm
        rcases hcm with rfl | rfl | rfl | rfl | rfl
        · exact zlt
        · exact Heap.lt_size gT
        · exact Heap.lt_size gO
        · obtain ⟨o, eo, _⟩ := A1.obj i s.heap t1
          exact Heap.lt_size eo
        · obtain ⟨o, eo, _⟩ := A2.obj i s.heap t2
          exact Heap.lt_size eo
      rw [upd_ne (Nat.ne_of_lt clt)]
      exact (hf c hcm).1
  done := by
    intro X hP hw hK hc i pins s σ H E I hf st hg
    subst hP; subst hw; subst hK
    obtain ⟨⟨gz, gT, p0, q0, gO⟩, t1, t2⟩ := st
    obtain ⟨l1, l2, b1, b2, hend⟩ := hg
    obtain ⟨Y1, St1, d1, e1, r1, k1⟩ := A1.draw X rfl rfl rfl hc pins s σ H l1 i I b1 t1
    obtain ⟨Y2, St2, d2, e2, r2, k2⟩ := A2.draw X rfl rfl rfl hc pins s σ H l2 i I b2 t2
    refine wpAny_pyNext_zipD2_end D d1 d2 gz gT gO e1 e2 (by omega) (by omega) (by omega) fun hp tk hk => ⟨rfl, Inv.turnedL I (fun c o nc ec => ?_) hf⟩
    simp only [List.mem_cons, List.not_mem_nil, or_false, not_or] at nc
    exact hk c o nc.1 nc.2.2.1 nc.2.2.2.1 nc.2.2.2.2 ec
  self := fun A i s Q E st h => wpAny_pyIter_zip st.1.1 h
end
section
variable {P : Program} {w : World} {K : PySem.W.Frag}
theorem vals_back {xs : List V} {us : List Value} {j : Nat} {u : Value} (r : Vals xs us) (h : us[j]? = some u) : ∃ x, xs[j]? = some x ∧ RelV x u := by
  have lt : j < xs.length := by rw [r.length]; exact (List.getElem?_eq_some_iff.mp h).1
  obtain ⟨u', h1, h2⟩ := r.get (List.getElem?_eq_getElem lt)
  rw [h] at h1
  cases h1
  exact ⟨_, List.getElem?_eq_getElem lt, h2⟩
theorem zsrc_l {it a : Addr} (ne : a ≠ it) : ZSrc P w K it [it, a] (fun H xs => SqL K H a xs) (fun i h => h.IsListIter it a i) where
  obj := fun i h ⟨o, e, _, d⟩ => ⟨o, e, by intro v q; rw [d] at q; cases q⟩
  keep := fun i h h' t k => t.at k
  inj := fun X hK pins s σ H xs ys I h1 h2 => by subst hK; exact I.list_inj h1 h2
  draw := fun X hP hw hK hc pins s σ H xs i I h t => by
    subst hP; subst hw; subst hK
    obtain ⟨its, rv, p, _⟩ := I.list h
    have D := Draws.list (prog := X.prog) (w := X.w) (show X.A.in1.handled = none from I.ok.hd hc) it a ne its.toArray
    rw [show its.toArray.size = xs.length by rw [rv.length]; rfl] at D
    exact ⟨_, _, D, ⟨t, p.isList⟩, fun j u hu => vals_back rv (by simpa using hu), fun j h q => q.1⟩
theorem zsrc_t {it a : Addr} (ne : a ≠ it) : ZSrc P w K it [it, a] (fun H xs => SqT K H a xs) (fun i h => h.IsTupleIter it a i) where
  obj := fun i h ⟨o, e, _, d⟩ => ⟨o, e, by intro v q; rw [d] at q; cases q⟩
  keep := fun i h h' t k => t.at k
  inj := fun X hK pins s σ H xs ys I h1 h2 => by subst hK; exact I.tuple_inj h1 h2
  draw := fun X hP hw hK hc pins s σ H xs i I h t => by
    subst hP; subst hw; subst hK
    obtain ⟨its, rv, p, _⟩ := I.tuple h
    have D := Draws.tuple (prog := X.prog) (w := X.w) (show X.A.in1.handled = none from I.ok.hd hc) it a ne its.toArray
    rw [show its.toArray.size = xs.length by rw [rv.length]; rfl] at D
    exact ⟨_, _, D, ⟨t, p⟩, fun j u hu => vals_back rv (by simpa using hu), fun j h q => q.1⟩
def signsV (x : Str) : List V := x.cps.toList.map fun c => V.str ⟨#[c]⟩
theorem zsrc_s {it : Addr} {x : Str} {tk : Tok} : ZSrc P w K it [it] (fun _ xs => xs = signsV x) (fun i h => h.IsStrIter it (strIterType x) x tk i) where
  obj := fun i h ⟨o, e, _, d⟩ => ⟨o, e, by intro v q; rw [d] at q; cases q⟩
  keep := fun i h h' ⟨o, e, r⟩ k => ⟨o, k o e, r⟩
  inj := fun X hK pins s σ H xs ys I h1 h2 => by rw [h1, h2]
  draw := fun X hP hw hK hc pins s σ H xs i I h t => by
    subst hP; subst hw; subst h
    have D := Draws.text (prog := X.prog) (w := X.w) (show X.A.in1.handled = none from I.ok.hd hc) it x tk
    rw [show x.cps.size = (signsV x).length by simp [signsV]] at D
    refine ⟨_, _, D, t, fun j u ⟨c, k, h1, h2⟩ => ⟨.str ⟨#[c]⟩, ?_, ?_⟩, fun j h q => q⟩
    · unfold signsV
      rw [List.getElem?_map, Array.getElem?_toList, h1]; rfl
    · rw [h2]; exact ⟨k, rfl⟩
def ZArg (K : PySem.W.Frag) (H : Hp) (v : V) (S : Hp → List V → Prop) : Prop :=
  (∃ a xs, v = .ref a ∧ SqL K H a xs ∧ S = fun H xs => SqL K H a xs) ∨ (∃ a xs, v = .ref a ∧ SqT K H a xs ∧ S = fun H xs => SqT K H a xs) ∨ ∃ x, v = .str x ∧ S = fun _ xs => xs = signsV x
theorem zarg_begins {X : Cx} {pins : List (Addr × Obj)} {σ : L2.St} {H : Hp} {s : Shared} {v : V} {u : Value} {S : Hp → List V → Prop} (I : Inv X pins σ H s) (r : RelV v u) (h : ZArg X.K H v S) :
    ∃ (o : Obj) (Hb : Heap → Prop) (fp : List Addr), Begins u o Hb ∧ Hb s.heap ∧ (∀ b ∈ fp, b < s.heap.objs.size) ∧
      ∀ it, s.heap.objs.size ≤ it → ∃ tn : Nat → Heap → Prop, ZSrc X.prog X.w X.K it (it :: fp) S tn ∧ ∀ h', h'.get? it = some o → tn 0 h' := by
  rcases h with ⟨a, xs, rfl, hq, rfl⟩ | ⟨a, xs, rfl, hq, rfl⟩ | ⟨x, rfl, rfl⟩
  · cases r
    obtain ⟨its, rv, p, _⟩ := I.list hq
    have lt : a < s.heap.objs.size := p.lt
    exact ⟨_, _, [a], begins_list a its.toArray, p.isList, by simpa using lt, fun it hit => ⟨_, zsrc_l (Nat.ne_of_lt (Nat.lt_of_lt_of_le lt hit)), fun h' e => ⟨_, e, rfl, rfl⟩⟩⟩
  · cases r
    obtain ⟨its, rv, p, _⟩ := I.tuple hq
    have lt : a < s.heap.objs.size := by obtain ⟨o, e, _⟩ := id p; exact Heap.lt_size e
    exact ⟨_, _, [a], begins_tuple a its.toArray, p, by simpa using lt, fun it hit => ⟨_, zsrc_t (Nat.ne_of_lt (Nat.lt_of_lt_of_le lt hit)), fun h' e => ⟨_, e, rfl, rfl⟩⟩⟩
  · obtain ⟨tk, rfl⟩ := r
    exact ⟨_, _, [], begins_text x tk, trivial, by simp, fun it hit => ⟨_, zsrc_s, fun h' e => ⟨_, e, rfl, rfl⟩⟩⟩
end
def iZipG (K : PySem.W.Frag) (ta : TA) : TI := fun σ H R => ta σ H fun vs H1 => ∃ v1 v2 S1 S2, vs = [v1, v2] ∧ ZArg K H1 v1 S1 ∧ ZArg K H1 v2 S2 ∧ R (ItzG S1 S2) H1
theorem pi_zipG {X : Cx} {e e2 : Expr} {ta : TA} {p pos tpos : Pos} {elts : List Expr} {kk : Nat} (hg : Gl X "zip") (hm : X.mg "zip" = none) (ha : PA X [e, e2] ta)
    (hs : starEach [e, e2] X.env = (false, eval e X.env) :: starEach [e2] X.env := by rfl) (hpl : (backTo pos (starEach [e2] X.env)).any (·.1) = false := by rfl) :
    PI X (.Tuple elts kk tpos) (.Call (.Name "zip" p) [e, e2] [] pos) (iZipG X.K ta) := ⟨fun pins s σ H R I h => by
  refine Call_ (ld_blt I hg hm PyProof.Rows.boot_zip (PyProof.Rows.callWith_type1 (thn (ha.run pos pins s σ H _ I h) fun us s1 q => ?_) hs hpl))
  obtain ⟨vs, H1, I1, r1, v1, v2, S1, S2, ex, z1, z2, q⟩ := q
  subst ex
  cases r1 with
  | cons ra rr =>
    cases rr with
    | cons rb rr =>
      cases rr
      obtain ⟨o1, Hb1, fp1, B1, b1, lt1, k1⟩ := zarg_begins I1 ra z1
      obtain ⟨o2, Hb2, fp2, B2, b2, lt2, k2⟩ := zarg_begins I1 rb z2
      obtain ⟨tn1, A1, t1⟩ := k1 s1.heap.objs.size (Nat.le_refl _)
      obtain ⟨tn2, A2, t2⟩ := k2 (s1.heap.objs.size + 1) (Nat.le_add_right _ _)
      refine zip_begins2 B1 B2 b1 b2 fun h' gz gT gO g1 g2 sz hk => wpAny_pyIter_zip gz ?_
      have I2 : Inv X pins σ H1 { s1 with heap := h' } := I1.kept (t' := s1.toks) hk
      have new : ∀ c ∈ [s1.heap.objs.size + 4, s1.heap.objs.size + 2, s1.heap.objs.size + 3, s1.heap.objs.size, s1.heap.objs.size + 1], FpOk X pins H1 c := by
        intro c hc
        have le : s1.heap.objs.size ≤ c := by
          simp only [List.mem_cons, List.not_mem_nil, or_false] at hc
          rcases hc with rfl | rfl | rfl | rfl | rfl <;> first | exact Nat.le_refl _ | exact Nat.le_add_right _ _
        exact I1.fpOk le (I1.hok.fresh le)
      exact ⟨_, _, _, _, H1, rfl, I2, turn_zipG (zip_sep2 lt1 lt2) A1 A2, ⟨⟨gz, gT, _, _, gO⟩, t1 h' g1, t2 h' g2⟩, new, q⟩⟩
end Tm
set_option Elab.async false
set_option linter.all false
set_option maxRecDepth 100000
set_option maxHeartbeats 2000000
namespace Tm
open PySem L2
open Evl (Ex ex_rd ex_l ex_t)
structure Walks (K : PySem.W.Frag) (Hk : Hp) (J : It) (items : List MV) : Prop where
  go : ∀ i H, Ex Hk H → i < items.length → J.go i H
  stop : ∀ H, Ex Hk H → J.stop items.length H
  yld : ∀ i H x H', Ex Hk H → i < items.length → J.yld i H x H' → ∃ y, items[i]? = some y ∧ ((H' = H ∧ RV K Hk y x) ∨ ∃ p vs ys, H p = none ∧ H' = upd H p (.tup vs) ∧ x = .ref p ∧ y = .tup ys ∧ RVs K Hk ys vs)
abbrev MI := Env → Res (List MV × Env)
def okI (c : Ct) (F Hk : Hp) (bp : List (Nat × Addr)) (σ : St) (R : It → Hp → Prop) : Res (List MV × Env) → Prop
  | .ok (xs, ρ') => ∀ Hk' H' J, Ex Hk Hk' → RS c.K F Hk' H' bp σ ρ' → Walks c.K Hk' J xs → R J H'
  | .exc e ρ' => Wish c F Hk bp σ e ρ'
  | .stuck => False
theorem okI.mono {c : Ct} {F Hk Hk' : Hp} {bp : List (Nat × Addr)} {σ : St} {Q : It → Hp → Prop} {r : Res (List MV × Env)} (x : Ex Hk Hk') (h : okI c F Hk bp σ Q r) : okI c F Hk' bp σ Q r := by
  cases r with
  | ok a => exact fun Hk2 H2 v x2 => h Hk2 H2 v (x.trans x2)
  | exc e ρ => exact Wish.mono x h
  | stuck => exact h
theorem postI {c : Ct} {F : Hp} {bp : List (Nat × Addr)} {σ : St} {R : It → Hp → Prop} : Post c F bp σ fun Hk r => okI c F Hk bp σ R r := ⟨fun _ _ _ h => h, fun _ h => h, fun _ _ _ x h => okI.mono x h⟩
def rdI (c : Ct) (m : MI) : TI := fun σ H R => ∃ F Hk bp ρ, At c F Hk H bp σ ρ ∧ okI c F Hk bp σ R (m ρ)
theorem PIw {X : Cx} {tg e : Expr} {t t' : TI} (h : PI X tg e t) (w : ∀ σ H R, t' σ H R → t σ H R) : PI X tg e t' := ⟨fun pins s σ H R I q => h.run pins s σ H R I (w σ H R q)⟩
theorem walks_l {K : PySem.W.Frag} {Hk : Hp} {a : Addr} {xs : List MV} {vs : List V} (h : SqL K Hk a vs) (r : RVs K Hk xs vs) : Walks K Hk (Itl K a) xs := by
  refine ⟨fun i H e hi => ?_, fun H e => ⟨vs, ex_l e h, by rw [r.length]; exact Nat.le_refl _⟩, fun i H x H' e hi y => ?_⟩
  · obtain ⟨v, hv, _⟩ := r.get (i := i) (x := xs[i]) (by simp [hi])
    exact ⟨vs, v, ex_l e h, hv⟩
  · obtain ⟨v, hv, rv⟩ := r.get (i := i) (x := xs[i]) (by simp [hi])
    obtain ⟨e1, y⟩ := y
    have := y vs (ex_l e h)
    rw [hv] at this
    cases this
    exact ⟨xs[i], by simp [hi], .inl ⟨e1, rv⟩⟩
theorem walks_t {K : PySem.W.Frag} {Hk : Hp} {a : Addr} {xs : List MV} {vs : List V} (h : SqT K Hk a vs) (r : RVs K Hk xs vs) : Walks K Hk (Itt K a) xs := by
  refine ⟨fun i H e hi => ?_, fun H e => ⟨vs, ex_t e h, by rw [r.length]; exact Nat.le_refl _⟩, fun i H x H' e hi y => ?_⟩
  · obtain ⟨v, hv, _⟩ := r.get (i := i) (x := xs[i]) (by simp [hi])
    exact ⟨vs, v, ex_t e h, hv⟩
  · obtain ⟨v, hv, rv⟩ := r.get (i := i) (x := xs[i]) (by simp [hi])
    obtain ⟨e1, y⟩ := y
    have := y vs (ex_t e h)
    rw [hv] at this
    cases this
    exact ⟨xs[i], by simp [hi], .inl ⟨e1, rv⟩⟩
def rngM (lo c : Int) (n : Nat) : List MV := (List.range n).map fun i => .int (lo + (i : Nat) * c)
theorem rngM_get {lo c : Int} {n i : Nat} (h : i < n) : (rngM lo c n)[i]? = some (.int (lo + (i : Nat) * c)) := by
  unfold rngM
  rw [List.getElem?_map, List.getElem?_range h]; rfl
theorem rngM_len {lo c : Int} {n : Nat} : (rngM lo c n).length = n := by simp [rngM]
theorem walks_r {K : PySem.W.Frag} {Hk : Hp} {lo : Int} {n : Nat} : Walks K Hk (Itr lo n) (rngM lo 1 n) := by
  refine ⟨fun i H e hi => by rw [rngM_len] at hi; exact hi, fun H e => by rw [rngM_len]; exact Nat.le_refl n, fun i H x H' e hi y => ?_⟩
  rw [rngM_len] at hi
  obtain ⟨e1, e2⟩ := y
  exact ⟨_, rngM_get hi, .inl ⟨e1, by rw [e2, Int.mul_one]; exact RV.int.mpr rfl⟩⟩
theorem walks_rc {K : PySem.W.Frag} {Hk : Hp} {lo c : Int} {n : Nat} : Walks K Hk (Itc lo c n) (rngM lo c n) := by
  refine ⟨fun i H e hi => by rw [rngM_len] at hi; exact hi, fun H e => by rw [rngM_len]; exact Nat.le_refl n, fun i H x H' e hi y => ?_⟩
  rw [rngM_len] at hi
  obtain ⟨e1, e2⟩ := y
  exact ⟨_, rngM_get hi, .inl ⟨e1, by rw [e2]; exact RV.int.mpr rfl⟩⟩
def signsM (z : Str) : List MV := z.cps.toList.map fun c => .str ⟨#[c]⟩
theorem walks_s {K : PySem.W.Frag} {Hk : Hp} {z : Str} : Walks K Hk (Its z) (signsM z) := by
  have l : (signsM z).length = z.cps.size := by simp [signsM]
  refine ⟨fun i H e hi => by rw [l] at hi; exact hi, fun H e => by rw [l]; exact Nat.le_refl _, fun i H x H' e hi y => ?_⟩
  obtain ⟨e1, ch, e2, e3⟩ := y
  refine ⟨.str ⟨#[ch]⟩, ?_, .inl ⟨e1, by rw [e3]; exact RV.str.mpr rfl⟩⟩
  unfold signsM
  rw [List.getElem?_map, Array.getElem?_toList, e2]; rfl
def zipM (xs ys : List MV) : List MV := List.zipWith (fun x y => .tup [x, y]) xs ys
theorem zipM_get {xs ys : List MV} {i : Nat} {x y : MV} (h1 : xs[i]? = some x) (h2 : ys[i]? = some y) : (zipM xs ys)[i]? = some (.tup [x, y]) := by
  unfold zipM
  rw [List.getElem?_zipWith, h1, h2]
theorem zipM_len {xs ys : List MV} : (zipM xs ys).length = min xs.length ys.length := by simp [zipM]
theorem rvs2 {K : PySem.W.Frag} {H : Hp} {x y : MV} {v w : V} (h : RV K H x v) (g : RV K H y w) : RVs K H [x, y] [v, w] := RVs.cons.mpr ⟨v, _, rfl, h, RVs.cons.mpr ⟨w, _, rfl, g, RVs.nil.mpr rfl⟩⟩
def ZVal (K : PySem.W.Frag) (Hk : Hp) (S : Hp → List V → Prop) (xs : List MV) : Prop := ∃ vs, (∀ H, Ex Hk H → S H vs) ∧ RVs K Hk xs vs
theorem walks_zg {K : PySem.W.Frag} {Hk : Hp} {S1 S2 : Hp → List V → Prop} {xs ys : List MV} (h1 : ZVal K Hk S1 xs) (h2 : ZVal K Hk S2 ys) : Walks K Hk (ItzG S1 S2) (zipM xs ys) := by
  obtain ⟨vs, g1, r1⟩ := h1
  obtain ⟨ws, g2, r2⟩ := h2
  refine ⟨fun i H e hi => ?_, fun H e => ⟨vs, ws, g1 H e, g2 H e, ?_⟩, fun i H x H' e hi y => ?_⟩
  · rw [zipM_len] at hi
    obtain ⟨v, hv, _⟩ := r1.get (i := i) (x := xs[i]) (by first | (simp; done) | (simp; omega))
    obtain ⟨u, hu, _⟩ := r2.get (i := i) (x := ys[i]) (by first | (simp; done) | (simp; omega))
    exact ⟨vs, ws, v, u, g1 H e, g2 H e, hv, hu⟩
  · rw [zipM_len, r1.length, r2.length]; omega
  · rw [zipM_len] at hi
    obtain ⟨v, hv, rv⟩ := r1.get (i := i) (x := xs[i]) (by first | (simp; done) | (simp; omega))
    obtain ⟨u, hu, ru⟩ := r2.get (i := i) (x := ys[i]) (by first | (simp; done) | (simp; omega))
    obtain ⟨p, x1, y1, e1, e2, e3, e4, e5⟩ := y
    have a1 := e4 vs (g1 H e)
    have a2 := e5 ws (g2 H e)
    rw [hv] at a1
    rw [hu] at a2
    cases a1
    cases a2
    exact ⟨_, zipM_get (x := xs[i]) (y := ys[i]) (by first | (simp; done) | (simp; omega)) (by first | (simp; done) | (simp; omega)), .inr ⟨p, _, _, e2, e3, e1, rfl, rvs2 rv ru⟩⟩
def enumFrom (k : Nat) : List MV → List MV
  | [] => []
  | x :: xs => .tup [.int (k : Nat), x] :: enumFrom (k + 1) xs
theorem enum_get : ∀ {xs : List MV} {k i : Nat} {x : MV}, xs[i]? = some x → (enumFrom k xs)[i]? = some (.tup [.int ((k + i : Nat) : Int), x])
  | [], _, _, _, h => by simp at h
  | y :: xs, k, 0, x, h => by simp at h; subst h; rfl
  | y :: xs, k, i + 1, x, h => by
    have := enum_get (xs := xs) (k := k + 1) (i := i) (x := x) (by simpa using h)
    rw [show k + (i + 1) = k + 1 + i by omega]
    exact this
theorem enum_len : ∀ {xs : List MV} {k : Nat}, (enumFrom k xs).length = xs.length
  | [], _ => rfl
  | x :: xs, k => by simp [enumFrom, enum_len]
theorem walks_e {K : PySem.W.Frag} {Hk : Hp} {a : Addr} {xs : List MV} {vs : List V} (h : SqL K Hk a vs) (r : RVs K Hk xs vs) : Walks K Hk (Ite K a) (enumFrom 0 xs) := by
  refine ⟨fun i H e hi => ?_, fun H e => ⟨vs, ex_l e h, by rw [enum_len, r.length]; exact Nat.le_refl _⟩, fun i H x H' e hi y => ?_⟩
  · rw [enum_len] at hi
    obtain ⟨v, hv, _⟩ := r.get (i := i) (x := xs[i]) (by simp [hi])
    exact ⟨vs, v, ex_l e h, hv⟩
  · rw [enum_len] at hi
    obtain ⟨v, hv, rv⟩ := r.get (i := i) (x := xs[i]) (by simp [hi])
    obtain ⟨T, x1, e1, e2, e3, e4⟩ := y
    have q1 := e4 vs (ex_l e h)
    rw [hv] at q1
    cases q1
    refine ⟨_, enum_get (x := xs[i]) (by simp [hi]), .inr ⟨T, _, _, e2, e3, e1, rfl, ?_⟩⟩
    rw [Nat.zero_add]
    exact rvs2 (RV.int.mpr rfl) rv
section
variable {X : Cx} {c : Ct} {tg : Expr}
def itemsOf : MV → Option (List MV)
  | .lst xs => some xs
  | .tup xs => some xs
  | .scr ns => some (ns.map .int)
  | .str z => some (signsM z)
  | _ => none
def mItV (a : ME) : MI := fun ρ => (a ρ).bind fun x ρ1 => match itemsOf x with | some xs => .ok (xs, ρ1) | none => .stuck
theorem mi_val {e : Expr} {a : ME} (h : PE X e (rdE c a)) (hK : c.K = X.K := by rfl) : PI X tg e (rdI c (mItV a)) := by
  refine ⟨fun pins s σ H R I q => ?_⟩
  obtain ⟨F, Hk, bp, ρ, S, q⟩ := q
  cases ea : a ρ with
  | stuck => unfold mItV at q; rw [ea] at q; exact q.elim
  | exc x ρ1 =>
    have z : rdE c a σ H fun _ _ => False := ⟨F, Hk, bp, ρ, S, by
      unfold mItV at q; rw [ea] at q ⊢; exact q⟩
    exact (pi_str h).run pins s σ H R I (rdw z fun _ _ f => f.elim)
  | ok p =>
    obtain ⟨x, ρ1⟩ := p
    have q' : okI c F Hk bp σ R (match itemsOf x with | some xs => .ok (xs, ρ1) | none => .stuck) := by unfold mItV at q; rw [ea] at q; exact q
    have ok : ∀ Q : VK, (∀ Hk' H' v, Ex Hk Hk' → RS c.K F Hk' H' bp σ ρ1 → RV c.K Hk' x v → Q v H') → rdE c a σ H Q := fun Q k => ⟨F, Hk, bp, ρ, S, by rw [ea]; exact k⟩
    cases x with
    | lst xs =>
      refine (pi_list h).run pins s σ H R I (ok _ fun Hk1 H1 v x1 S1 r1 => ?_)
      obtain ⟨p, vs, rfl, h1, s1⟩ := RV.lst.mp r1
      refine ⟨p, rfl, ⟨vs, SqL.of (S1.ex _ _ h1)⟩, ?_⟩
      rw [← hK]
      exact q' Hk1 H1 _ x1 S1 (walks_l (SqL.of h1) s1)
    | tup xs =>
      refine (pi_tup h).run pins s σ H R I (ok _ fun Hk1 H1 v x1 S1 r1 => ?_)
      obtain ⟨p, vs, rfl, h1, s1⟩ := RV.tup.mp r1
      refine ⟨p, rfl, ⟨vs, by rw [← hK]; exact ex_t S1.ex h1⟩, ?_⟩
      rw [← hK]
      exact q' Hk1 H1 _ x1 S1 (walks_t h1 s1)
    | scr ns =>
      refine (pi_list h).run pins s σ H R I (ok _ fun Hk1 H1 v x1 S1 r1 => ?_)
      obtain ⟨p, rfl, h1⟩ := RV.scr.mp r1
      refine ⟨p, rfl, ⟨_, by rw [← hK]; exact ex_l S1.ex h1⟩, ?_⟩
      rw [← hK]
      exact q' Hk1 H1 _ x1 S1 (walks_l h1 (RVs.ints.mpr rfl))
    | str z =>
      refine (pi_str h).run pins s σ H R I (ok _ fun Hk1 H1 v x1 S1 r1 => ?_)
      exact ⟨z, RV.str.mp r1, q' Hk1 H1 _ x1 S1 walks_s⟩
    | _ => exact q'.elim
def inR (i : Int) : Bool := decide (-(2 ^ 62) ≤ i) && decide (i < 2 ^ 62)
theorem inR_iff {i : Int} : inR i = true ↔ -(2 ^ 62) ≤ i ∧ i < 2 ^ 62 := by unfold inR; simp
def mR1 (a : MA) : MI := fun ρ => (a ρ).bind fun xs ρ1 => match xs with
  | [.int j] => if inR j then .ok (rngM 0 1 j.toNat, ρ1) else .stuck
  | _ => .stuck
def rgOk (i j c : Int) : Bool := decide (c ≠ 0) && decide (c.natAbs < 1073741824) && Builtin.Range.small i j c && decide (Builtin.Range.rangeSize i j c = ((Builtin.Range.rangeSize i j c).toNat : Int))
def mR3 (a : MA) : MI := fun ρ => (a ρ).bind fun xs ρ1 => match xs with
  | [.int i, .int j, .int k] => if rgOk i j k then .ok (rngM i k (Builtin.Range.rangeSize i j k).toNat, ρ1) else .stuck
  | _ => .stuck
theorem rvs_int1 {K : PySem.W.Frag} {H : Hp} {i : Int} {vs : List V} (r : RVs K H [.int i] vs) : vs = [.int i] := (RVs.ints (ns := [i])).mp r
theorem rvs_int2 {K : PySem.W.Frag} {H : Hp} {i j : Int} {vs : List V} (r : RVs K H [.int i, .int j] vs) : vs = [.int i, .int j] := (RVs.ints (ns := [i, j])).mp r
theorem rvs_int3 {K : PySem.W.Frag} {H : Hp} {i j k : Int} {vs : List V} (r : RVs K H [.int i, .int j, .int k] vs) : vs = [.int i, .int j, .int k] := (RVs.ints (ns := [i, j, k])).mp r
theorem mi_r1 {a : Expr} {m : MA} {p pos : Pos} (hm : X.mg "range" = none) (ha : PA X [a] (rdA c m)) (hg : Gl X "range" := by rfl) (hs : starEach [a] X.env = [(false, eval a X.env)] := by rfl) : PI X tg (.Call (.Name "range" p) [a] [] pos) (rdI c (mR1 m)) :=
  PIw (pi_range1 hg hm ha hs) fun σ H R ⟨F, Hk, bp, ρ, S, h⟩ => rdAw (bA postI S h) fun vs H1 ⟨Hk1, xs, ρ1, x1, S1, r1, h1⟩ => by
    split at h1
    · rename_i j
      split at h1
      · rename_i hj
        have := inR_iff.mp hj
        exact ⟨j, rvs_int1 r1, this.1, this.2, h1 _ _ _ (Ex.refl _) S1.1 walks_r⟩
      · exact h1.elim
    · exact h1.elim
theorem mi_r3 {a b d : Expr} {m : MA} {p pos : Pos} (hm : X.mg "range" = none) (ha : PA X [a, b, d] (rdA c m)) (hg : Gl X "range" := by rfl)
    (hs : starEach [a, b, d] X.env = (false, eval a X.env) :: starEach [b, d] X.env := by rfl) (hpl : (backTo pos (starEach [b, d] X.env)).any (·.1) = false := by rfl) : PI X tg (.Call (.Name "range" p) [a, b, d] [] pos) (rdI c (mR3 m)) :=
  PIw (pi_range3 hg hm ha hs hpl) fun σ H R ⟨F, Hk, bp, ρ, S, h⟩ => rdAw (bA postI S h) fun vs H1 ⟨Hk1, xs, ρ1, x1, S1, r1, h1⟩ => by
    split at h1
    · rename_i i j k
      split at h1
      · rename_i hj
        unfold rgOk at hj
        simp only [Bool.and_eq_true, decide_eq_true_eq] at hj
        exact ⟨i, j, k, _, rvs_int3 r1, ⟨hj.1.1.1, hj.1.1.2, hj.1.2, hj.2⟩, h1 _ _ _ (Ex.refl _) S1.1 walks_rc⟩
      · exact h1.elim
    · exact h1.elim
def zitM : MV → Option (List MV)
  | .lst xs => some xs
  | .tup xs => some xs
  | .str z => some (signsM z)
  | _ => none
theorem rv_signs {K : PySem.W.Frag} {Hk : Hp} (z : Str) : RVs K Hk (signsM z) (signsV z) := by
  unfold signsM signsV
  generalize z.cps.toList = l
  induction l with
  | nil => exact RVs.nil.mpr rfl
  | cons c l ih => exact RVs.cons.mpr ⟨_, _, rfl, RV.str.mpr rfl, ih⟩
theorem zit_arg {K : PySem.W.Frag} {Hk H : Hp} {x : MV} {v : V} {xs : List MV} (e : Ex Hk H) (r : RV K Hk x v) (h : zitM x = some xs) : ∃ S, ZArg K H v S ∧ ZVal K Hk S xs := by
  cases x with
  | lst ys =>
    cases h
    obtain ⟨p, vs, rfl, g, s⟩ := RV.lst.mp r
    exact ⟨_, .inl ⟨p, vs, rfl, SqL.of (e _ _ g), rfl⟩, vs, fun H' e' => ex_l e' (SqL.of g), s⟩
  | tup ys =>
    cases h
    obtain ⟨p, vs, rfl, g, s⟩ := RV.tup.mp r
    exact ⟨_, .inr (.inl ⟨p, vs, rfl, ex_t e g, rfl⟩), vs, fun H' e' => ex_t e' g, s⟩
  | str z =>
    cases h
    rw [RV.str.mp r]
    exact ⟨_, .inr (.inr ⟨z, rfl, rfl⟩), signsV z, fun _ _ => rfl, rv_signs z⟩
  | _ => cases h
def mZip (a : MA) : MI := fun ρ => (a ρ).bind fun xs ρ1 => match xs with
  | [x, y] => (match zitM x, zitM y with | some xs, some ys => .ok (zipM xs ys, ρ1) | _, _ => .stuck)
  | _ => .stuck
theorem mi_zip {e e2 : Expr} {m : MA} {p pos tpos : Pos} {elts : List Expr} {kk : Nat} (hm : X.mg "zip" = none) (ha : PA X [e, e2] (rdA c m)) (hg : Gl X "zip" := by rfl) (hK : c.K = X.K := by rfl)
    (hs : starEach [e, e2] X.env = (false, eval e X.env) :: starEach [e2] X.env := by rfl) (hpl : (backTo pos (starEach [e2] X.env)).any (·.1) = false := by rfl) : PI X (.Tuple elts kk tpos) (.Call (.Name "zip" p) [e, e2] [] pos) (rdI c (mZip m)) :=
  PIw (pi_zipG hg hm ha hs hpl) fun σ H R ⟨F, Hk, bp, ρ, S, h⟩ => rdAw (bA postI S h) fun vs H1 ⟨Hk1, xs, ρ1, x1, S1, r1, h1⟩ => by
    split at h1
    · split at h1
      · rename_i z1 z2
        obtain ⟨v, r, rfl, q1, q2⟩ := RVs.cons.mp r1
        obtain ⟨w, r', rfl, q3, q4⟩ := RVs.cons.mp q2
        rw [RVs.nil.mp q4]
        obtain ⟨T1, y1, y2⟩ := zit_arg S1.1.ex q1 z1
        obtain ⟨T2, y3, y4⟩ := zit_arg S1.1.ex q3 z2
        refine ⟨v, w, T1, T2, rfl, hK ▸ y1, hK ▸ y3, ?_⟩
        exact h1 _ _ _ (Ex.refl _) S1.1 (walks_zg y2 y4)
      · exact h1.elim
    · exact h1.elim
def mEnum (a : MA) : MI := fun ρ => (a ρ).bind fun xs ρ1 => match xs with
  | [.lst xs] => .ok (enumFrom 0 xs, ρ1)
  | _ => .stuck
theorem mi_enum {e : Expr} {m : MA} {p pos tpos : Pos} {elts : List Expr} {kk : Nat} (hm : X.mg "enumerate" = none) (ha : PA X [e] (rdA c m)) (hg : Gl X "enumerate" := by rfl) (hK : c.K = X.K := by rfl)
    (hs : starEach [e] X.env = [(false, eval e X.env)] := by rfl) : PI X (.Tuple elts kk tpos) (.Call (.Name "enumerate" p) [e] [] pos) (rdI c (mEnum m)) :=
  PIw (pi_enum hg hm ha hs) fun σ H R ⟨F, Hk, bp, ρ, S, h⟩ => rdAw (bA postI S h) fun vs H1 ⟨Hk1, xs, ρ1, x1, S1, r1, h1⟩ => by
    split at h1
    · obtain ⟨v, r, rfl, q1, q2⟩ := RVs.cons.mp r1
      rw [RVs.nil.mp q2]
      obtain ⟨p1, vs1, rfl, g1, s1⟩ := RV.lst.mp q1
      refine ⟨p1, vs1, rfl, SqL.of (S1.1.ex _ _ g1), ?_⟩
      rw [← hK]
      exact h1 _ _ _ (Ex.refl _) S1.1 (walks_e (SqL.of g1) s1)
    · exact h1.elim
def mLoop (g : MG) (b : MS) : List MV → Env → Res (Fl × Env)
  | [], ρ => .ok (.nx, ρ)
  | x :: xs, ρ => match g x ρ with
    | none => .stuck
    | some ρ1 => (b ρ1).bind fun f ρ2 => match f with
      | .nx => mLoop g b xs ρ2
      | .ct => mLoop g b xs ρ2
      | .br => .ok (.nx, ρ2)
      | .rt v => .ok (.rt v, ρ2)
def mFor (i : MI) (g : MG) (b : MS) : MS := fun ρ => (i ρ).bind fun xs ρ1 => mLoop g b xs ρ1
theorem okS.loop {F Hk : Hp} {bp : List (Nat × Addr)} {D : Ends} {g : MG} {b : MS} {xs : List MV} {N : St → Hp → Prop} (hN : ∀ Hk' H' σ' ρ', Ex Hk Hk' → RS c.K F Hk' H' bp σ' ρ' → okS c F Hk' bp D (mLoop g b xs ρ') → N σ' H') {r : Res (Fl × Env)}
    (h : okS c F Hk bp D (r.bind fun f ρ2 => match f with | .nx => mLoop g b xs ρ2 | .ct => mLoop g b xs ρ2 | .br => .ok (.nx, ρ2) | .rt v => .ok (.rt v, ρ2))) : okS c F Hk bp { D with nx := N, ct := N, bk := D.nx } r := by
  cases r with
  | stuck => exact h
  | exc e ρ => exact h
  | ok q =>
    obtain ⟨f, ρ1⟩ := q
    cases f with
    | nx => exact fun Hk1 H1 σ1 x1 S1 => hN Hk1 H1 σ1 ρ1 x1 S1 (okS.mono x1 h)
    | ct => exact fun Hk1 H1 σ1 x1 S1 => hN Hk1 H1 σ1 ρ1 x1 S1 (okS.mono x1 h)
    | br => exact h
    | rt x => exact h
theorem rd_for {it : MI} {g : MG} {b : MS} {D : Ends} {σ : St} {H : Hp} (h : rdS c (mFor it g b) D σ H) : tFor (rdI c it) (rdG c g) (rdS c b) D σ H := by
  obtain ⟨F, Hk, bp, ρ, S, h⟩ := h
  refine ⟨F, Hk, bp, ρ, S, ?_⟩
  have h : okS c F Hk bp D ((it ρ).bind fun xs ρ1 => mLoop g b xs ρ1) := h
  cases e : it ρ with
  | stuck => rw [e] at h; exact h
  | exc x ρ' => rw [e] at h; exact fun Hk1 H1 cls d => h Hk1 H1 σ cls d
  | ok p =>
    obtain ⟨xs, ρ1⟩ := p
    rw [e] at h
    intro Hk1 H1 J x1 S1 wk
    have h : okS c F Hk1 bp D (mLoop g b xs ρ1) := okS.mono x1 h
    refine ⟨fun i m σ' H' => m = xs.length - i ∧ i ≤ xs.length ∧ ∃ Hk' ρ', Ex Hk1 Hk' ∧ At c F Hk' H' bp σ' ρ' ∧ okS c F Hk' bp D (mLoop g b (xs.drop i) ρ'), ⟨xs.length, by simp, Nat.zero_le _, Hk1, ρ1, Ex.refl _, ⟨S1, S.2⟩, h⟩, ?_⟩
    rintro i m σ' H' ⟨rfl, hi, Hk', ρ', x', S', h'⟩
    by_cases hlt : i < xs.length
    · refine .inr ⟨wk.go i H' (x'.trans S'.1.ex) hlt, fun σ2 H2 => ∃ Hk2 ρ2, Ex Hk1 Hk2 ∧ At c F Hk2 H2 bp σ2 ρ2 ∧ okS c F Hk2 bp D (mLoop g b (xs.drop (i + 1)) ρ2), fun σ2 H2 ⟨Hk2, ρ2, x2, S2, h2⟩ => ⟨xs.length - (i + 1), by omega, rfl, hlt, Hk2, ρ2, x2, S2, h2⟩, fun x H2 y => ?_⟩
      obtain ⟨z, ez, hz⟩ := wk.yld i H' x H2 (x'.trans S'.1.ex) hlt y
      have ed : xs.drop i = z :: xs.drop (i + 1) := by
        rw [List.drop_eq_getElem_cons hlt]
        rw [List.getElem?_eq_getElem hlt] at ez
        cases ez; rfl
      rw [ed] at h'
      have fin : ∀ Hk3, Ex Hk' Hk3 → At c F Hk3 H2 bp σ' ρ' → RV c.K Hk3 z x → rdG c g x σ' H2 fun σ2 H2 => rdS c b { D with nx := fun σ2 H2 => ∃ Hk2 ρ2, Ex Hk1 Hk2 ∧ At c F Hk2 H2 bp σ2 ρ2 ∧ okS c F Hk2 bp D (mLoop g b (xs.drop (i + 1)) ρ2), ct := fun σ2 H2 => ∃ Hk2 ρ2, Ex Hk1 Hk2 ∧ At c F Hk2 H2 bp σ2 ρ2 ∧ okS c F Hk2 bp D (mLoop g b (xs.drop (i + 1)) ρ2), bk := D.nx } σ2 H2 := fun Hk3 x3 S3 r3 => by
        refine ⟨F, Hk3, bp, ρ', z, S3, r3, ?_⟩
        have h' := okS.mono x3 h'
        unfold mLoop at h'
        cases eg : g z ρ' with
        | none => rw [eg] at h'; exact h'
        | some ρ3 =>
          rw [eg] at h'
          intro Hk4 H4 σ4 x4 S4
          refine ⟨F, Hk4, bp, ρ3, ⟨S4, S.2⟩, okS.loop (fun Hk5 H5 σ5 ρ5 x5 S5 h5 => ⟨Hk5, ρ5, x'.trans (x3.trans (x4.trans x5)), ⟨S5, S.2⟩, h5⟩) (okS.mono x4 h')⟩
      rcases hz with ⟨rfl, r⟩ | ⟨p, vs, ys, hp, rfl, rfl, rfl, r⟩
      · exact fin Hk' (Ex.refl _) S' (RV.mono x' _ _ r)
      · have xn := Ex.new (o := .tup vs) (S'.1.ex.back hp)
        exact fin _ xn ⟨S'.1.new hp, S.2⟩ (RV.tup.mpr ⟨p, vs, rfl, SqT.of upd_same, r.mono (x'.trans xn)⟩)
    · have e : i = xs.length := by omega
      subst e
      rw [List.drop_length] at h'
      exact .inl ⟨wk.stop H' (x'.trans S'.1.ex), h' _ _ _ (Ex.refl _) S'.1⟩
theorem ms_for {iter : Expr} {body : List Stmt} {it : MI} {g : MG} {b : MS} {pos : Pos} (hp : PassesOwn (model X.prog X.w) X.A X.env X.xe) (hc : X.calm = true) (hi : PI X tg iter (rdI c it)) (hg : PG X tg (rdG c g)) (hb : PSs X body (rdS c b))
    (hs : ∀ x, foldedSetIterable iter X.env x = pure x := by intro _; rfl) : PS X (.For tg iter body [] pos) (rdS c (mFor it g b)) := PSw (ps_for hp hc hi hg hb hs) fun _ _ _ h => rd_for h
end
end Tm
set_option Elab.async false
set_option linter.all false
set_option maxRecDepth 100000
set_option maxHeartbeats 2000000
namespace Tm
open PySem L2
open Evl (Ex ex_rd ex_l ex_t)
theorem okXN {P : Program} {w : World} {K : PySem.W.Frag} {mg : Str → Option Value} {base : Heap} {x qual : Str} {st : Stmt} {f : Addr} {fd : FuncData} {N ps : List Str} {k : Nat} {sp : Sp} (F : Fun K x qual st f fd) (S : FnScope N ps (defScope st)) (hl : ∀ vs H Q E, sp vs H Q E → vs.length = ps.length)
    (b : ∀ (cdv : Value) (A : Around) (outer : List PySem.Env) (s : Shared) (H : Hp) (vs : List V) (Q : VK) (E : XK), Room k (A.deeper (PyProof.Rows.envOfC qual (defScope st) s.heap.objs.size f cdv)) → sp vs H Q E →
      ∃ t, PSs (cxOf (L2N.CX P w) P w K mg base N qual (defScope st) f cdv A outer s H E) (defBody st) t ∧ t { nx := fun _ H' => Q .non H', rt := Q } (L2.start N vs) H) : FnOk P w K mg base (L2N.CX P w) (k + 1) f fd ps sp := by
  obtain ⟨_, _, _, _, _, _, cv, _, _, rfl, e, hc⟩ := F.ex
  exact fn_of e hc S hl fun A outer s H vs Q E hr h => b cv A outer s H vs Q E hr h
abbrev MF := List MV → Res (MV × Env)
def endOf (bs : List Nat) (ρ : Env) : Env := bs.map fun i => (ρ[i]?).join
def mFn (n : Nat) (bs : List Nat) (m : MS) : MF := fun xs => match m (xs.map some ++ List.replicate (n - xs.length) none) with
  | .ok (.rt v, ρ) => .ok (v, endOf bs ρ)
  | .ok (.nx, ρ) => .ok (.non, endOf bs ρ)
  | .exc e ρ => .exc e (endOf bs ρ)
  | _ => .stuck
def okF (K : PySem.W.Frag) (mg : Str → Option Value) (F Hk : Hp) (bσ : St) (Q : VK) (E : XK) : Res (MV × Env) → Prop
  | .ok (v, bs) => ∀ Hk' H' w, Ex Hk Hk' → RS K F Hk' H' [] (bσ ++ [some w]) (bs ++ [some v]) → Q w H'
  | .exc e bs => ∀ Hk' H' cls d, Ex Hk Hk' → RS K F Hk' H' [] bσ bs → ExR K mg Hk' e cls d → E cls d H'
  | .stuck => False
def spF (K : PySem.W.Frag) (mg : Str → Option Value) (np : Nat) (bs : List Nat) (f : MF) : Sp := fun vs H Q E => vs.length = np ∧ ∃ F Hk bp xs, RS K F Hk H bp (vs.map some) (xs.map some) ∧ bp.map (·.1) = bs ∧ okF K mg F Hk (bp.map fun q => some (.ref q.2)) Q E (f xs)
section
variable {K : PySem.W.Frag} {F Hk H : Hp} {bp : List (Nat × Addr)} {σ : St} {ρ : Env}
theorem RS.pick (S : RS K F Hk H bp (σ ++ [some v]) (ρ ++ [some x])) (is : List Nat) (nd : is.Nodup) (hl : ∀ i ∈ is, i < ρ.length) :
    RS K F Hk H [] ((is.map fun i => (σ[i]?).join) ++ [some v]) ((is.map fun i => (ρ[i]?).join) ++ [some x]) := by
  obtain ⟨ow, s⟩ := S.ow
  have hlen : σ.length = ρ.length := by have := S.len; simpa using this
  have old : ∀ {j i : Nat}, is[j]? = some i → i < ρ.length := fun h => hl _ (List.mem_of_getElem? h)
  refine ⟨by simp, S.ex, S.fr, S.frk, ⟨fun j => match is[j]? with | some i => ow i | none => if j = is.length then ow ρ.length else [], ?_⟩, fun q hq => nomatch hq⟩
  have own : ∀ j a, a ∈ (match is[j]? with | some i => ow i | none => if j = is.length then ow ρ.length else []) → (∃ i, is[j]? = some i ∧ a ∈ ow i) ∨ (j = is.length ∧ a ∈ ow ρ.length) := fun j a h => by
    cases e : is[j]? with
    | some i => rw [e] at h; exact .inl ⟨i, rfl, h⟩
    | none =>
      rw [e] at h
      by_cases e2 : j = is.length
      · rw [if_pos e2] at h; exact .inr ⟨e2, h⟩
      · rw [if_neg e2] at h; cases h
  refine ⟨fun j y h => ?_, fun j a h => ?_, fun j h => ?_, fun j k a hjk h1 h2 => ?_⟩
  · rcases app_get h with ⟨e1, e2⟩ | ⟨lt, e2⟩
    · cases e2
      rw [List.length_map] at e1
      subst e1
      obtain ⟨u, hu, ou⟩ := s.s ρ.length x (by simp)
      have ev : u = v := by rw [← hlen] at hu; simpa using hu.symm
      subst ev
      refine ⟨u, by simp, ?_⟩
      have : is[is.length]? = none := by simp
      rw [this, if_pos rfl]
      exact ou
    · rw [List.length_map] at lt
      rw [List.getElem?_map] at e2
      cases ei : is[j]? with
      | none => rw [ei] at e2; cases e2
      | some i =>
        rw [ei] at e2
        have e3 : ρ[i]? = some (some y) := by
          cases er : ρ[i]? with
          | none => rw [Option.map_some, er] at e2; cases e2
          | some o => rw [Option.map_some, er] at e2; cases o with
            | none => cases e2
            | some z => cases e2; rfl
        have li := old ei
        obtain ⟨w, w1, w2⟩ := s.s i y (by rw [List.getElem?_append_left li]; exact e3)
        rw [List.getElem?_append_left (by rw [hlen]; exact li)] at w1
        refine ⟨w, ?_, w2⟩
        rw [List.getElem?_append_left (by simpa using lt), List.getElem?_map, ei, Option.map_some, w1]; rfl
  · rcases own j a h with ⟨i, _, m⟩ | ⟨_, m⟩
    · exact s.f i a m
    · exact s.f _ a m
  · cases e : (match is[j]? with | some i => ow i | none => if j = is.length then ow ρ.length else []) with
    | nil => exact (h e).elim
    | cons a r =>
      rcases own j a (by rw [e]; simp) with ⟨i, ei, _⟩ | ⟨e2, _⟩
      · have := lt_get ei; simp; omega
      · simp; omega
  · rcases own j a h1 with ⟨i, ei, m⟩ | ⟨e1, m⟩ <;> rcases own k a h2 with ⟨i2, ei2, m2⟩ | ⟨e2, m2⟩
    · have ne : i ≠ i2 := fun z => by
        subst z
        obtain ⟨a1, a2⟩ := List.getElem?_eq_some_iff.mp ei
        obtain ⟨b1, b2⟩ := List.getElem?_eq_some_iff.mp ei2
        exact hjk ((List.getElem_inj nd).mp (a2.trans b2.symm))
      exact s.d i i2 a ne m m2
    · exact s.d i ρ.length a (Nat.ne_of_lt (old ei)) m m2
    · exact s.d i2 ρ.length a (Nat.ne_of_lt (old ei2)) m2 m
    · exact hjk (e1.trans e2.symm)
theorem RS.pad (S : RS K F Hk H bp σ ρ) (n : Nat) : RS K F Hk H bp (σ ++ List.replicate n none) (ρ ++ List.replicate n none) := by
  obtain ⟨ow, s⟩ := S.ow
  have g : ∀ {α : Type} {l : List (Option α)} {j : Nat} {y : α}, (l ++ List.replicate n none)[j]? = some (some y) → l[j]? = some (some y) := fun {α l j y} h => by
    by_cases e : j < l.length
    · rw [List.getElem?_append_left e] at h; exact h
    · rw [List.getElem?_append_right (Nat.le_of_not_lt e), List.getElem?_replicate] at h
      split at h <;> cases h
  have g2 : ∀ {α : Type} {l : List (Option α)} {j : Nat} {y : α}, l[j]? = some (some y) → (l ++ List.replicate n none)[j]? = some (some y) := fun {α l j y} h => by
    rw [List.getElem?_append_left (lt_get h)]; exact h
  refine ⟨by simp [S.len], S.ex, S.fr, S.frk, ⟨ow, fun j y h => ?_, s.f, fun j h => ?_, s.d⟩, fun q hq => g2 (S.bor q hq)⟩
  · obtain ⟨v, e, o⟩ := s.s j y (g h)
    exact ⟨v, g2 e, o⟩
  · have := s.w j h; simp; omega
theorem RS.args {xs : List MV} {vs : List V} (ex : Ex Hk H) (fr : Ex F H) (frk : ∀ a o, F a = some o → Hk a = none) (r : RVs K Hk xs vs) : RS K F Hk H [] (vs.map some) (xs.map some) := by
  refine ⟨by simp [r.length], ex, fr, frk, ⟨fun _ => [], fun j y h => ?_, fun j a h => (nomatch h), fun j h => (h rfl).elim, fun j k a _ h => nomatch h⟩, fun q hq => nomatch hq⟩
  rw [List.getElem?_map] at h
  cases e : xs[j]? with
  | none => rw [e] at h; cases h
  | some z =>
    rw [e] at h
    cases h
    obtain ⟨v, e1, rv⟩ := r.get e
    exact ⟨v, by rw [List.getElem?_map, e1]; rfl, rv.ov⟩
end
section
variable {X : Cx} {c : Ct}
def fz : MV → Option MV
  | .own xs => some (.lst xs)
  | .obj _ _ => none
  | .dow _ _ => none
  | .dot _ _ => none
  | x => some x
def mFz (m : ME) : ME := fun ρ => (m ρ).bind fun x ρ1 => match fz x with | some y => .ok (y, ρ1) | none => .stuck
theorem RS.last {K : PySem.W.Frag} {F Hk H : Hp} {bp : List (Nat × Addr)} {σ : St} {ρ : Env} {v : V} {x y : MV} (S : RS K F Hk H bp (σ ++ [some v]) (ρ ++ [some x])) (hb : ∀ q ∈ bp, q.1 < ρ.length) (e : fz x = some y) :
    ∃ Hk', Ex Hk Hk' ∧ RS K F Hk' H bp σ ρ ∧ RV K Hk' y v := by
  have hl : σ.length = ρ.length := by have := S.len; simpa using this
  have pl : x.per = true → y = x → ∃ Hk', Ex Hk Hk' ∧ RS K F Hk' H bp σ ρ ∧ RV K Hk' y v := fun px ey => by
    subst ey
    obtain ⟨w, ew, rw'⟩ := S.get (i := ρ.length) (x := y) (by simp) px
    rw [← hl] at ew
    have : w = v := by simpa using ew.symm
    subst this
    exact ⟨Hk, Ex.refl _, S.drop hb, rw'⟩
  cases x with
  | own xs =>
    cases e
    obtain ⟨p, vs, e1, ex, r, S'⟩ := S.freeze (i := ρ.length) (xs := xs) (by simp)
    rw [← hl] at e1
    have : v = .ref p := by simpa using e1
    subst this
    refine ⟨_, ex, ?_, r⟩
    have z : (ρ ++ [some (MV.own xs)]).set ρ.length (some (.lst xs)) = ρ ++ [some (.lst xs)] := by simp
    rw [z] at S'
    exact S'.drop hb
  | obj C fs => cases e
  | dow _ _ => cases e
  | dot _ _ => cases e
  | _ => cases e; exact pl rfl rfl
theorem rd_fz {m : ME} {σ : St} {H : Hp} {Q : VK} (h : rdE c (mFz m) σ H Q) : rdO c m σ H Q := by
  obtain ⟨F, Hk, bp, ρ, S, h⟩ := h
  refine ⟨F, Hk, bp, ρ, S, ?_⟩
  have h : okE c F Hk bp σ Q ((m ρ).bind fun x ρ1 => match fz x with | some y => .ok (y, ρ1) | none => .stuck) := h
  cases e : m ρ with
  | stuck => rw [e] at h; exact h
  | exc x ρ' => rw [e] at h; exact h
  | ok p =>
    obtain ⟨x, ρ1⟩ := p
    rw [e] at h
    intro Hk1 H1 v x1 S1
    have h : okE c F Hk bp σ Q (match fz x with | some y => .ok (y, ρ1) | none => .stuck) := h
    have l1 : σ.length = ρ1.length := by have := S1.len; simpa using this
    cases ez : fz x with
    | none => rw [ez] at h; exact h.elim
    | some y =>
      rw [ez] at h
      obtain ⟨Hk2, x2, S2, r2⟩ := S1.last (fun q hq => by rw [← l1]; exact lt_get (S.1.bor q hq)) ez
      exact h _ _ _ (x1.trans x2) S2 r2
theorem me_fz {e : Expr} {m : ME} (h : PE X e (rdO c m)) : PE X e (rdE c (mFz m)) := PEw h fun _ _ _ q => rd_fz q
def mCall (f : MF) (a : MA) : ME := fun ρ => (a ρ).bind fun xs ρ1 => match f xs with
  | .ok (v, _) => .ok (v, ρ1)
  | .exc e _ => .exc e ρ1
  | .stuck => .stuck
theorem call_end {f : MF} {n : Nat} {F Hk H : Hp} {bp : List (Nat × Addr)} {σ : St} {ρ : Env} {xs : List MV} {vs : List V} {Q : VK} {E : XK} (S : At c F Hk H bp σ ρ) (r : RVs c.K Hk xs vs) (hn : xs.length = n)
    (hE : ∀ e, (∀ Hk' H' cls d, Ex Hk Hk' → RS c.K F Hk' H' bp σ ρ → ExR c.K c.mg Hk' e cls d → c.W cls d σ H') → ∀ Hk' H' cls d, Ex Hk Hk' → RS c.K F Hk' H' bp σ ρ → ExR c.K c.mg Hk' e cls d → E cls d H')
    (h : okO c F Hk bp σ Q (match f xs with | .ok (v, _) => .ok (v, ρ) | .exc e _ => .exc e ρ | .stuck => .stuck)) : spF c.K c.mg n [] f vs H Q E := by
  refine ⟨by rw [r.length]; exact hn, ?_⟩
  obtain ⟨ow, s⟩ := S.1.ow
  haveI : ∀ a, Decidable (∃ i, a ∈ ow i) := fun a => Classical.propDecidable _
  have fN : ∃ F' : Hp, (∀ i a, a ∈ ow i → F' a = H a) ∧ (∀ a o, F a = some o → F' a = some o) ∧ ∀ a o, F' a = some o → H a = some o ∧ Hk a = none := by
    refine ⟨fun a => if (∃ i, a ∈ ow i) then H a else F a, fun i a ha => if_pos ⟨i, ha⟩, fun a o ha => ?_, fun a o ha => ?_⟩
    · have : ¬ ∃ i, a ∈ ow i := fun ⟨i, hi⟩ => by have := (s.f i a hi).2.1; rw [ha] at this; cases this
      show (if (∃ i, a ∈ ow i) then H a else F a) = some o
      rw [if_neg this]; exact ha
    · have ha : (if (∃ i, a ∈ ow i) then H a else F a) = some o := ha
      by_cases e : ∃ i, a ∈ ow i
      · rw [if_pos e] at ha
        obtain ⟨i, hi⟩ := e
        exact ⟨ha, (s.f i a hi).1⟩
      · rw [if_neg e] at ha
        exact ⟨S.1.fr a o ha, S.1.frk a o ha⟩
  obtain ⟨F', f1, f2, f3⟩ := fN
  refine ⟨F', Hk, [], xs, RS.args S.1.ex (fun a o ha => (f3 a o ha).1) (fun a o ha => (f3 a o ha).2) r, rfl, ?_⟩
  -- what stands behind the call
  have back : ∀ {Hk' H' : Hp} {bσ : St} {bρ : Env}, Ex Hk Hk' → RS c.K F' Hk' H' [] bσ bρ → RS c.K F Hk' H' bp σ ρ ∧ SL c.K F Hk' H' ow σ ρ := fun {Hk' H' bσ bρ} x S' => by
    have own : ∀ i, ∀ a ∈ ow i, H' a = H a ∧ Hk' a = none := fun i a ha => by
      obtain ⟨g1, g2, o, g3⟩ := s.f i a ha
      have q : F' a = some o := (f1 i a ha).trans g3
      exact ⟨(S'.fr a o q).trans g3.symm, S'.frk a o q⟩
    have sl : SL c.K F Hk' H' ow σ ρ := s.step x own
    exact ⟨⟨S.1.len, S'.ex, fun a o ha => S'.fr a o (f2 a o ha), fun a o ha => S'.frk a o (f2 a o ha), ⟨ow, sl⟩, S.1.bor⟩, sl⟩
  cases ef : f xs with
  | stuck => rw [ef] at h; exact h.elim
  | exc e bs =>
    rw [ef] at h
    intro Hk' H' cls d x S' er
    exact hE e h Hk' H' cls d x (back x S').1 er
  | ok p =>
    obtain ⟨v, bs⟩ := p
    rw [ef] at h
    intro Hk' H' w x S'
    obtain ⟨R1, sl⟩ := back x S'
    refine h Hk' H' w x ?_
    obtain ⟨ow2, s2⟩ := S'.ow
    have bl : bs.length = 0 := by have := S'.len; simpa using this.symm
    have be : bs = [] := List.eq_nil_of_length_eq_zero bl
    subst be
    obtain ⟨w2, e2, o2⟩ := s2.s 0 v rfl
    cases e2
    refine ⟨by simp [S.1.len], R1.ex, R1.fr, R1.frk, ⟨_, sl.push S.1.len o2 (fun a ha => ?_) (fun i a ha hi => ?_)⟩, R1.bor_app _⟩
    · obtain ⟨g1, g2, _⟩ := s2.f 0 a ha
      refine ⟨g1, ?_⟩
      cases e : F a with
      | none => rfl
      | some o => rw [f2 a o e] at g2; cases g2
    · obtain ⟨g1, g2, o, g3⟩ := s2.f 0 a ha
      obtain ⟨_, _, o', q⟩ := s.f i a hi
      rw [f1 i a hi, q] at g2
      cases g2
theorem rd_call {f : MF} {n : Nat} {a : MA} {σ : St} {H : Hp} {Q : VK} (hn : ∀ ρ xs ρ', a ρ = .ok (xs, ρ') → xs.length = n) (h : rdO c (mCall f a) σ H Q) : tCallS (spF c.K c.mg n [] f) (WE c.W) (rdA c a) σ H Q := by
  obtain ⟨F, Hk, bp, ρ, S, h⟩ := h
  refine ⟨F, Hk, bp, ρ, S, ?_⟩
  have h : okO c F Hk bp σ Q ((a ρ).bind fun xs ρ1 => match f xs with | .ok (v, _) => .ok (v, ρ1) | .exc e _ => .exc e ρ1 | .stuck => .stuck) := h
  cases e : a ρ with
  | stuck => rw [e] at h; exact h
  | exc x ρ' => rw [e] at h; exact h
  | ok p =>
    obtain ⟨xs, ρ1⟩ := p
    rw [e] at h
    intro Hk1 H1 vs x1 S1 r1
    exact call_end ⟨S1, S.2⟩ r1 (hn _ _ _ e) (fun e q => q) (okO.mono x1 h)
def Lng (a : MA) (n : Nat) : Prop := ∀ ρ xs ρ', a ρ = .ok (xs, ρ') → xs.length = n
theorem lng_nil : Lng mNil 0 := fun ρ xs ρ' h => by cases h; rfl
theorem lng_cons {a : ME} {b : MA} {n : Nat} (h : Lng b n) : Lng (mCons a b) (n + 1) := fun ρ xs ρ' e => by
  unfold mCons at e
  cases ea : a ρ with
  | stuck => rw [ea] at e; cases e
  | exc x r => rw [ea] at e; cases e
  | ok p =>
    rw [ea] at e
    have e : (b p.2).bind (fun ys ρ2 => Res.ok (p.1 :: ys, ρ2)) = .ok (xs, ρ') := e
    cases eb : b p.2 with
    | stuck => rw [eb] at e; cases e
    | exc x r => rw [eb] at e; cases e
    | ok q =>
      rw [eb] at e
      cases e
      simp [h _ _ _ eb]
variable {k : Nat} {fa : Addr} {fd : FuncData} {ps : List Str} {x : Str} {p pos : Pos} {e : Expr} {es : List Expr} {f : MF} {a : MA} {n : Nat}
theorem mo_call (F : FnOk X.prog X.w X.K X.mg X.base (L2N.CX X.prog X.w) k fa fd ps (spF X.K X.mg n [] f)) (hr : Room k X.A) (hm : X.mg x = some (.ref fa)) (hk : PySem.W.keepIn X.K (.ref fa) = true) (hb : Binds X.K fd ps []) (tk : L2N.Takes X c.W)
    (ha : PA X (e :: es) (rdA c a)) (hn : Lng a n) (hg : Gl X x := by rfl) (hK : c.K = X.K := by rfl) (hM : c.mg = X.mg := by rfl) (hdb : (x == ("__debug__" : Str)) = false := by decide) (he : starEach (e :: es) X.env = (false, eval e X.env) :: starEach es X.env := by rfl)
    (hpl : (backTo pos (starEach es X.env)).any (·.1) = false := by rfl) : PE X (.Call (.Name x p) (e :: es) [] pos) (rdO c (mCall f a)) :=
  PEw (pe_callS (E := WE c.W) F hr hg hm hk hb (fun σ => L2N.passAt tk σ) ha hdb he hpl) fun σ H Q h => by
    have := rd_call hn h
    rw [hK, hM] at this
    exact this
def mCall0 (f : MF) (a : MA) : ME := fun ρ => (a ρ).bind fun xs ρ1 => match f xs with
  | .ok (v, _) => .ok (v, ρ1)
  | _ => .stuck
theorem rd_call0 {f : MF} {n : Nat} {a : MA} {σ : St} {H : Hp} {Q : VK} (hn : Lng a n) (h : rdO c (mCall0 f a) σ H Q) : tCall (spF c.K c.mg n [] f) [] (fun _ _ _ => False) (rdA c a) σ H Q := by
  obtain ⟨F, Hk, bp, ρ, S, h⟩ := h
  refine ⟨F, Hk, bp, ρ, S, ?_⟩
  have h : okO c F Hk bp σ Q ((a ρ).bind fun xs ρ1 => match f xs with | .ok (v, _) => .ok (v, ρ1) | _ => .stuck) := h
  cases e : a ρ with
  | stuck => rw [e] at h; exact h
  | exc x ρ' => rw [e] at h; exact h
  | ok p =>
    obtain ⟨xs, ρ1⟩ := p
    rw [e] at h
    intro Hk1 H1 vs x1 S1 r1
    rw [List.append_nil]
    have h : okO c F Hk bp σ Q (match f xs with | .ok (v, _) => .ok (v, ρ1) | _ => .stuck) := h
    cases ef : f xs with
    | stuck => rw [ef] at h; exact h.elim
    | exc e bs => rw [ef] at h; exact h.elim
    | ok q =>
      rw [ef] at h
      refine call_end (f := f) (c := ⟨c.K, c.mg, fun _ _ _ _ => False, c.bs, c.J, c.Jm⟩) ⟨S1, S.2⟩ r1 (hn _ _ _ e) (fun e q => q) ?_
      rw [ef]
      exact fun Hk2 H2 w x2 => h Hk2 H2 w (x1.trans x2)
theorem passes0 {P : Program} {w : World} {X : Cx} : Passes (L2N.CX P w) X fun _ _ _ => False := fun _ _ _ _ _ _ _ ⟨_, _, _, _, _, _, _, _, _, _, _, _, f⟩ => f.elim
theorem mo_call0 (F : FnOk X.prog X.w X.K X.mg X.base (L2N.CX X.prog X.w) k fa fd ps (spF X.K X.mg n [] f)) (hr : Room k X.A) (hm : X.mg x = some (.ref fa)) (hk : PySem.W.keepIn X.K (.ref fa) = true) (hb : Binds X.K fd ps [])
    (ha : PA X (e :: es) (rdA c a)) (hn : Lng a n) (hg : Gl X x := by rfl) (hK : c.K = X.K := by rfl) (hM : c.mg = X.mg := by rfl) (hdb : (x == ("__debug__" : Str)) = false := by decide) (he : starEach (e :: es) X.env = (false, eval e X.env) :: starEach es X.env := by rfl)
    (hpl : (backTo pos (starEach es X.env)).any (·.1) = false := by rfl) : PE X (.Call (.Name x p) (e :: es) [] pos) (rdO c (mCall0 f a)) :=
  PEw (pe_call F hr hg hm hk hb .nil passes0 ha hdb he hpl) fun σ H Q h => by
    have := rd_call0 hn h
    rw [hK, hM] at this
    exact this
end
section
variable {P : Program} {w : World} {K : PySem.W.Frag} {mg : Str → Option Value} {base : Heap}
theorem start_eq {N : List Str} {vs : List V} {xs : List MV} (h : vs.length = xs.length) : L2.start N vs = vs.map some ++ List.replicate (N.length - xs.length) none := by unfold L2.start; rw [h]
theorem fn_ok {x qual : Str} {st : Stmt} {f : Addr} {fd : FuncData} {N ps : List Str} {k : Nat} {bs : List Nat} {m : MS} (F : Fun K x qual st f fd) (S : FnScope N ps (defScope st)) (nd : bs.Nodup) (hbs : ∀ i ∈ bs, i < ps.length)
    (hbody : ∀ (cdv : Value) (A : Around) (outer : List PySem.Env) (s : Shared) (H : Hp) (E : XK), Room k (A.deeper (PyProof.Rows.envOfC qual (defScope st) s.heap.objs.size f cdv)) →
      PSs (cxOf (L2N.CX P w) P w K mg base N qual (defScope st) f cdv A outer s H E) (defBody st) (rdS ⟨K, mg, fun cls d _ H => E cls d H, bs, fun _ _ => True, fun _ _ _ _ _ => trivial⟩ m)) :
    FnOk P w K mg base (L2N.CX P w) (k + 1) f fd ps (spF K mg ps.length bs (mFn N.length bs m)) := by
  refine okXN F S (fun vs H Q E h => h.1) (fun cdv A outer s H vs Q E hr h => ⟨_, hbody cdv A outer s H E hr, ?_⟩)
  obtain ⟨hl, F', Hk, bp, xs, R, eb, h⟩ := h
  have el : vs.length = xs.length := by have := R.len; simpa using this
  rw [start_eq el]
  refine ⟨F', Hk, bp, _, ⟨R.pad _, eb, trivial⟩, ?_⟩
  have bor : ∀ {σ' : St} {Hk' H' : Hp} {ρ' : Env}, RS K F' Hk' H' bp σ' ρ' → bs.map (fun i => (σ'[i]?).join) = bp.map (fun q => some (.ref q.2)) := fun {σ' Hk' H' ρ'} S' => by
    rw [← eb, List.map_map]
    refine List.map_congr_left fun q hq => ?_
    show (σ'[q.1]?).join = _
    rw [S'.bor q hq]; rfl
  have bl : ∀ {σ' : St} {Hk' H' : Hp} {ρ' : Env}, RS K F' Hk' H' bp σ' ρ' → ∀ i ∈ bs, i < ρ'.length := fun {σ' Hk' H' ρ'} S' i hi => by
    rw [← eb] at hi
    obtain ⟨q, hq, rfl⟩ := List.mem_map.mp hi
    rw [← S'.len]; exact lt_get (S'.bor q hq)
  unfold mFn at h
  cases em : m (xs.map some ++ List.replicate (N.length - xs.length) none) with
  | stuck => rw [em] at h; exact h.elim
  | exc e ρ' =>
    rw [em] at h
    intro Hk' H' σ' cls d x S' er
    refine h Hk' H' cls d x ?_ er
    have z := ((S'.push (x := .non) (v := .non) (RV.non.mpr rfl)).pick bs nd (bl S')).drop (fun _ hq => nomatch hq)
    rw [bor S'] at z
    exact z
  | ok p =>
    obtain ⟨fl, ρ'⟩ := p
    rw [em] at h
    have ret : ∀ {Hk' H' : Hp} {σ' : St} {u : V} {v : MV}, okF K mg F' Hk (bp.map fun q => some (.ref q.2)) Q E (.ok (v, endOf bs ρ')) → Ex Hk Hk' → RS K F' Hk' H' bp (σ' ++ [some u]) (ρ' ++ [some v]) → (∀ q ∈ bp, q.1 < ρ'.length) → Q u H' := fun {Hk' H' σ' u v} h x S' hq => by
      refine h Hk' H' u x ?_
      have z := S'.pick bs nd (fun i hi => by
        rw [← eb] at hi
        obtain ⟨q, hq', rfl⟩ := List.mem_map.mp hi
        exact hq q hq')
      have l1 : σ'.length = ρ'.length := by have := S'.len; simpa using this
      have e2 : bs.map (fun i => (σ'[i]?).join) = bp.map (fun q => some (.ref q.2)) := by
        rw [← eb, List.map_map]
        refine List.map_congr_left fun q hq' => ?_
        show (σ'[q.1]?).join = _
        have := S'.bor q hq'
        rw [List.getElem?_append_left (by rw [l1]; exact hq q hq')] at this
        rw [this]; rfl
      rw [e2] at z
      exact z
    cases fl with
    | nx => exact fun Hk' H' σ' x S' => ret h x (S'.push (x := .non) (v := .non) (RV.non.mpr rfl)) (fun q hq => by rw [← S'.len]; exact lt_get (S'.bor q hq))
    | br => exact h.elim
    | ct => exact h.elim
    | rt v =>
      intro Hk' H' σ' u x lq S'
      have l1 : σ'.length = ρ'.length := by have := S'.len; simpa using this
      exact ret h x S' fun q hq => by rw [← l1]; exact lq q hq
end
end Tm
set_option Elab.async false
set_option linter.all false
set_option maxRecDepth 100000
set_option maxHeartbeats 2000000
namespace Tm
open PySem L2
open Evl (Ex ex_rd ex_l ex_t)
def CallS (K : PySem.W.Frag) (f : List MV → Option MV) (r : List V → Hp → VK → Prop) : Prop := ∀ (xs : List MV) (z : MV) (vs : List V) (Hk H : Hp) (Q : VK), f xs = some z → Ex Hk H → RVs K Hk xs vs → (∀ u, RV K Hk z u → Q u H) →
  (∀ p o, H p = none → RV K (upd Hk p o) z (.ref p) → Q (.ref p) (upd H p o)) → r vs H Q
def mBlt (f : List MV → Option MV) (a : MA) : ME := fun ρ => (a ρ).bind fun xs ρ1 => match f xs with | some z => .ok (z, ρ1) | none => .stuck
section
variable {X : Cx} {c : Ct} {x : Str} {p pos : Pos} {e : Expr} {es : List Expr} {a : MA} {id T : String} {f : List MV → Option MV} {r : List V → Hp → VK → Prop}
theorem rd_blt (o : CallS c.K f r) {σ : St} {H : Hp} {Q : VK} (h : rdE c (mBlt f a) σ H Q) : tCB r (rdA c a) σ H Q := by
  obtain ⟨F, Hk, bp, ρ, S, h⟩ := h
  refine rdAw (bA postE S h) fun vs H1 ⟨Hk1, xs, ρ1, x1, S1, r1, h1⟩ => ?_
  have h1 : okE c F Hk1 bp σ Q (match f xs with | some z => .ok (z, ρ1) | none => .stuck) := h1
  cases ef : f xs with
  | none => rw [ef] at h1; exact h1.elim
  | some z =>
    rw [ef] at h1
    exact o xs z vs Hk1 H1 Q ef S1.1.ex r1 (fun u ru => h1 _ _ u (Ex.refl _) S1.1 ru) fun p ob hp ru => h1 _ _ _ (Ex.new (S1.1.ex.back hp)) (S1.1.new hp) ru
theorem me_blt (hc : CallR X (.builtin id) r) (o : CallS c.K f r) (hm : X.mg x = none) (hv : bootBuiltins x = some (.builtin id)) (ha : PA X (e :: es) (rdA c a)) (hg : Gl X x := by rfl) (hn : x ≠ "__name__" := by decide) (hdb : (x == ("__debug__" : Str)) = false := by decide)
    (he : starEach (e :: es) X.env = (false, eval e X.env) :: starEach es X.env := by rfl) (hpl : (backTo pos (starEach es X.env)).any (·.1) = false := by rfl) : PE X (.Call (.Name x p) (e :: es) [] pos) (rdE c (mBlt f a)) :=
  PEw (pe_callB hc hg hm hv ha hn hdb he hpl) fun _ _ _ h => rd_blt o h
theorem me_ty (hc : CallR X (.type T) r) (o : CallS c.K f r) (hm : X.mg x = none) (hv : bootBuiltins x = some (.type T)) (ha : PA X (e :: es) (rdA c a)) (hg : Gl X x := by rfl) (hn : x ≠ "__name__" := by decide) (hdb : (x == ("__debug__" : Str)) = false := by decide)
    (he : starEach (e :: es) X.env = (false, eval e X.env) :: starEach es X.env := by rfl) (hpl : (backTo pos (starEach es X.env)).any (·.1) = false := by rfl) : PE X (.Call (.Name x p) (e :: es) [] pos) (rdE c (mBlt f a)) :=
  PEw (pe_callTy hc hg hm hv ha hn hdb he hpl) fun _ _ _ h => rd_blt o h
theorem me_glob {v : MV} {w : V} {u : Value} (hm : X.mg x = some u) (rv : RelV w u) (r : ∀ H, RV c.K H v w) (hg : Gl X x := by rfl) (hd : (x == ("__debug__" : Str)) = false := by decide) : PE X (.Name x pos) (rdE c (mC v)) :=
  PEw (pe_glob hg hm rv hd) fun _ _ _ h => rd_c r h
theorem me_bltn {w : V} {u : Value} (hm : X.mg x = none) (hv : bootBuiltins x = some u) (rv : RelV w u) (hg : Gl X x := by rfl) (hn : x ≠ "__name__" := by decide) (hd : (x == ("__debug__" : Str)) = false := by decide) : PE X (.Name x pos) (rdE c (mC (.raw w))) :=
  PEw (pe_bltn hg hm hv rv hn hd) fun _ _ _ h => rd_c (fun _ => RV.raw.mpr rfl) h
end
section
variable {K : PySem.W.Frag}
theorem rvs1 {H : Hp} {x : MV} {vs : List V} (r : RVs K H [x] vs) : ∃ v, vs = [v] ∧ RV K H x v := by
  obtain ⟨v, r', rfl, q1, q2⟩ := RVs.cons.mp r
  rw [RVs.nil.mp q2]
  exact ⟨v, rfl, q1⟩
theorem rvs2' {H : Hp} {x y : MV} {vs : List V} (r : RVs K H [x, y] vs) : ∃ v w, vs = [v, w] ∧ RV K H x v ∧ RV K H y w := by
  obtain ⟨v, r', rfl, q1, q2⟩ := RVs.cons.mp r
  obtain ⟨w, rfl, q3⟩ := rvs1 q2
  exact ⟨v, w, rfl, q1, q3⟩
def bLen : List MV → Option MV
  | [.lst xs] => some (.int xs.length)
  | [.tup xs] => some (.int xs.length)
  | [.scr ns] => some (.int ns.length)
  | [.str z] => if szOk z.length then some (.int z.length) else none
  | _ => none
def rLenM (K : PySem.W.Frag) : List V → Hp → VK → Prop := fun xs H Q => (∃ p ys, xs = [.ref p] ∧ (SqL K H p ys ∨ SqT K H p ys) ∧ Q (.int ys.length) H) ∨ ∃ z, xs = [.str z] ∧ z.length ≤ sizeLine ∧ Q (.int z.length) H
theorem cr_lenM {X : Cx} : CallR X (.builtin "len") (rLenM X.K) := CallR.or call_len_seq call_len_str
theorem cs_len : CallS K bLen (rLenM K) := by
  intro xs z vs Hk H Q e ex r q qn
  unfold bLen at e
  split at e
  · cases e
    obtain ⟨v, rfl, rv⟩ := rvs1 r
    obtain ⟨p1, ws, rfl, h1, s1⟩ := RV.lst.mp rv
    exact .inl ⟨p1, ws, rfl, .inl (SqL.of (ex _ _ h1)), by rw [s1.length]; exact q _ (RV.int.mpr rfl)⟩
  · cases e
    obtain ⟨v, rfl, rv⟩ := rvs1 r
    obtain ⟨p1, ws, rfl, h1, s1⟩ := RV.tup.mp rv
    exact .inl ⟨p1, ws, rfl, .inr (ex_t ex h1), by rw [s1.length]; exact q _ (RV.int.mpr rfl)⟩
  · cases e
    obtain ⟨v, rfl, rv⟩ := rvs1 r
    obtain ⟨p1, rfl, h1⟩ := RV.scr.mp rv
    exact .inl ⟨p1, _, rfl, .inl (ex_l ex h1), by rw [List.length_map]; exact q _ (RV.int.mpr rfl)⟩
  · split at e
    · rename_i hz
      cases e
      obtain ⟨v, rfl, rv⟩ := rvs1 r
      exact .inr ⟨_, by rw [RV.str.mp rv], szOk_iff.mp hz, q _ (RV.int.mpr rfl)⟩
    · cases e
  · cases e
def bAbs : List MV → Option MV
  | [.int i] => some (.int (if i < 0 then -i else i))
  | _ => none
theorem cs_abs : CallS K bAbs (fun xs H Q => ∃ i, xs = [.int i] ∧ Q (.int (if i < 0 then -i else i)) H) := by
  intro xs z vs Hk H Q e ex r q qn
  unfold bAbs at e
  split at e
  · cases e
    exact ⟨_, rvs_int1 r, q _ (RV.int.mpr rfl)⟩
  · cases e
def bMax : List MV → Option MV
  | [.int i, .int j] => some (.int (if j > i then j else i))
  | _ => none
def bMin : List MV → Option MV
  | [.int i, .int j] => some (.int (if j < i then j else i))
  | _ => none
theorem cs_max : CallS K bMax (fun xs H Q => ∃ i j, xs = [.int i, .int j] ∧ Q (.int (if j > i then j else i)) H) := by
  intro xs z vs Hk H Q e ex r q qn
  unfold bMax at e
  split at e
  · cases e
    exact ⟨_, _, rvs_int2 r, q _ (RV.int.mpr rfl)⟩
  · cases e
theorem cs_min : CallS K bMin (fun xs H Q => ∃ i j, xs = [.int i, .int j] ∧ Q (.int (if j < i then j else i)) H) := by
  intro xs z vs Hk H Q e ex r q qn
  unfold bMin at e
  split at e
  · cases e
    exact ⟨_, _, rvs_int2 r, q _ (RV.int.mpr rfl)⟩
  · cases e
def bInt : List MV → Option MV
  | [.int i] => some (.int i)
  | [.bl k] => some (.int (if k then 1 else 0))
  | [.str s] => if decide (s.length ≤ 640) then (PySem.intText? s).map .int else none
  | _ => none
def rIntM : List V → Hp → VK → Prop := fun xs H Q => ((∃ i, xs = [.int i] ∧ Q (.int i) H) ∨ ∃ k, xs = [.bl k] ∧ Q (.int (if k then 1 else 0)) H) ∨ ∃ a n, xs = [.str a] ∧ PySem.intText? a = some n ∧ a.length ≤ 640 ∧ Q (.int n) H
theorem cr_intM {X : Cx} : CallR X (.type "int") rIntM := CallR.or call_int1 call_int_str
theorem cs_int : CallS K bInt rIntM := by
  intro xs z vs Hk H Q e ex r q qn
  unfold bInt at e
  split at e
  · cases e
    exact .inl (.inl ⟨_, rvs_int1 r, q _ (RV.int.mpr rfl)⟩)
  · cases e
    obtain ⟨v, rfl, rv⟩ := rvs1 r
    exact .inl (.inr ⟨_, by rw [RV.bl.mp rv], q _ (RV.int.mpr rfl)⟩)
  · split at e
    · rename_i s hs
      cases en : PySem.intText? s with
      | none => rw [en] at e; cases e
      | some n =>
        rw [en] at e
        cases e
        obtain ⟨v, rfl, rv⟩ := rvs1 r
        exact .inr ⟨s, n, by rw [RV.str.mp rv], en, of_decide_eq_true hs, q _ (RV.int.mpr rfl)⟩
    · cases e
  · cases e
def bTuple : List MV → Option MV
  | [.lst xs] => some (.tup xs)
  | [.tup xs] => some (.tup xs)
  | _ => none
theorem cs_tuple : CallS K bTuple (fun xs H Q => ∃ p ys, xs = [.ref p] ∧ ((SqL K H p ys ∧ ∀ l, H l = none → Q (.ref l) (upd H l (.tup ys))) ∨ (SqT K H p ys ∧ Q (.ref p) H))) := by
  intro xs z vs Hk H Q e ex r q qn
  unfold bTuple at e
  split at e
  · cases e
    obtain ⟨v, rfl, rv⟩ := rvs1 r
    obtain ⟨p1, ws, rfl, h1, s1⟩ := RV.lst.mp rv
    exact ⟨p1, ws, rfl, .inl ⟨SqL.of (ex _ _ h1), fun l hl => qn l _ hl (RV.tup.mpr ⟨l, ws, rfl, SqT.of upd_same, s1.mono (Ex.new (ex.back hl))⟩)⟩⟩
  · cases e
    obtain ⟨v, rfl, rv⟩ := rvs1 r
    obtain ⟨p1, ws, e1, h1, s1⟩ := RV.tup.mp rv
    subst e1
    exact ⟨p1, ws, rfl, .inr ⟨ex_t ex h1, q _ rv⟩⟩
  · cases e
def bList : List MV → Option MV
  | [.lst xs] => some (.lst xs)
  | [.tup xs] => some (.lst xs)
  | [.scr ns] => some (.lst (ns.map .int))
  | _ => none
def rListM (K : PySem.W.Frag) : List V → Hp → VK → Prop := fun xs H Q => ∃ p ys, xs = [.ref p] ∧ (SqL K H p ys ∨ SqT K H p ys) ∧ ∀ l, H l = none → Q (.ref l) (upd H l (.lst ys))
theorem list_src {Hk H : Hp} {xs : List MV} {ys : List MV} {vs : List V} (e : bList xs = some (.lst ys)) (ex : Ex Hk H) (r : RVs K Hk xs vs) : ∃ p ws, vs = [.ref p] ∧ (SqL K H p ws ∨ SqT K H p ws) ∧ RVs K Hk ys ws := by
  unfold bList at e
  split at e
  · cases e
    obtain ⟨v, rfl, rv⟩ := rvs1 r
    obtain ⟨p1, ws, rfl, h1, s1⟩ := RV.lst.mp rv
    exact ⟨p1, ws, rfl, .inl (SqL.of (ex _ _ h1)), s1⟩
  · cases e
    obtain ⟨v, rfl, rv⟩ := rvs1 r
    obtain ⟨p1, ws, rfl, h1, s1⟩ := RV.tup.mp rv
    exact ⟨p1, ws, rfl, .inr (ex_t ex h1), s1⟩
  · cases e
    obtain ⟨v, rfl, rv⟩ := rvs1 r
    obtain ⟨p1, rfl, h1⟩ := RV.scr.mp rv
    exact ⟨p1, _, rfl, .inl (ex_l ex h1), RVs.ints.mpr rfl⟩
  · cases e
theorem bList_lst {xs : List MV} {z : MV} (e : bList xs = some z) : ∃ ys, z = .lst ys := by
  unfold bList at e
  split at e <;> first | (cases e; exact ⟨_, rfl⟩) | cases e
theorem cs_list : CallS K bList (rListM K) := by
  intro xs z vs Hk H Q e ex r q qn
  obtain ⟨ys, rfl⟩ := bList_lst e
  obtain ⟨p, ws, rfl, h, s⟩ := list_src e ex r
  exact ⟨p, ws, rfl, h, fun l hl => qn l _ hl (RV.lst.mpr ⟨l, ws, rfl, upd_same, s.mono (Ex.new (ex.back hl))⟩)⟩
def blsOf : List MV → Option (List Bool)
  | [] => some []
  | .bl b :: r => (blsOf r).map (b :: ·)
  | _ => none
theorem bls_rv {H : Hp} : ∀ {xs : List MV} {bs : List Bool} {vs : List V}, blsOf xs = some bs → RVs K H xs vs → vs = bs.map V.bl
  | [], bs, vs, e, r => by cases e; rw [RVs.nil.mp r]; rfl
  | .bl b :: r', bs, vs, e, r => by
    unfold blsOf at e
    cases h : blsOf r' with
    | none => rw [h] at e; cases e
    | some cs =>
      rw [h] at e
      cases e
      obtain ⟨v, us, rfl, q1, q2⟩ := RVs.cons.mp r
      rw [RV.bl.mp q1, bls_rv h q2]; rfl
  | .non :: _, _, _, e, _ => by cases e
  | .int _ :: _, _, _, e, _ => by cases e
  | .str _ :: _, _, _, e, _ => by cases e
  | .tup _ :: _, _, _, e, _ => by cases e
  | .lst _ :: _, _, _, e, _ => by cases e
  | .own _ :: _, _, _, e, _ => by cases e
  | .raw _ :: _, _, _, e, _ => by cases e
  | .scr _ :: _, _, _, e, _ => by cases e
  | .fnc _ :: _, _, _, e, _ => by cases e
  | .obj _ _ :: _, _, _, e, _ => by cases e
  | .dct _ _ :: _, _, _, e, _ => by cases e
  | .dow _ _ :: _, _, _, e, _ => by cases e
  | .dot _ _ :: _, _, _, e, _ => by cases e
def bAll : List MV → Option MV
  | [.lst xs] => (blsOf xs).map fun bs => .bl (bs.all id)
  | _ => none
theorem cs_all : CallS K bAll (rAll K) := by
  intro xs z vs Hk H Q e ex r q qn
  unfold bAll at e
  split at e
  · rename_i ys
    cases h : blsOf ys with
    | none => rw [h] at e; cases e
    | some bs =>
      rw [h] at e
      cases e
      obtain ⟨v, rfl, rv⟩ := rvs1 r
      obtain ⟨p1, ws, rfl, h1, s1⟩ := RV.lst.mp rv
      have ew := bls_rv h s1
      subst ew
      exact ⟨p1, bs, rfl, SqL.of (ex _ _ h1), q _ (RV.bl.mpr rfl)⟩
  · cases e
inductive Kd where
  | non | bl | int | str | tup | lst
  deriving DecidableEq
def Kd.name : Kd → String
  | .non => "NoneType" | .bl => "bool" | .int => "int" | .str => "str" | .tup => "tuple" | .lst => "list"
def MV.kd : MV → Option Kd
  | .non => some .non | .bl _ => some .bl | .int _ => some .int | .str _ => some .str | .tup _ => some .tup | .lst _ => some .lst
  | _ => none
def kdOf : String → Option Kd
  | "bool" => some .bl | "int" => some .int | "str" => some .str | "tuple" => some .tup | "list" => some .lst
  | _ => none
def Kd.isa (a b : Kd) : Bool := decide (a = b) || (decide (a = .bl) && decide (b = .int))
theorem kit_kd (a b : Kd) (h : b ≠ .non) : kitB a.name b.name = some (a.isa b) := by
  cases a <;> cases b <;> first | exact (h rfl).elim | decide +kernel
def bIsi : List MV → Option MV
  | [x, .raw (.ty T)] => match x.kd, kdOf T with
    | some a, some b => some (.bl (a.isa b))
    | _, _ => none
  | _ => none
theorem kdOf_name {T : String} {b : Kd} (h : kdOf T = some b) : T = b.name ∧ b ≠ .non := by
  unfold kdOf at h
  split at h <;> first | (cases h; exact ⟨rfl, by decide⟩) | cases h
theorem ty_of {Hk H : Hp} {x : MV} {v : V} {a : Kd} (ex : Ex Hk H) (r : RV K Hk x v) (h : x.kd = some a) : TyX K H v (.type a.name) := by
  cases x with
  | non => cases h; rw [RV.non.mp r]; exact .base .non
  | bl b => cases h; rw [RV.bl.mp r]; exact .base (.bl b)
  | int b => cases h; rw [RV.int.mp r]; exact .base (.int b)
  | str b => cases h; rw [RV.str.mp r]; exact .base (.str b)
  | tup xs =>
    cases h
    obtain ⟨p, vs, rfl, h1, _⟩ := RV.tup.mp r
    rcases ex_t ex h1 with (h1 | ⟨o, h1⟩) | ⟨o, its, n, h1, h2, _⟩
    · exact .base (.tup h1)
    · exact .fTuple h1
    · exact .kTuple h1 h2
  | lst xs =>
    cases h
    obtain ⟨p, vs, rfl, h1, _⟩ := RV.lst.mp r
    exact .base (.lst (ex _ _ h1))
  | _ => cases h
theorem cs_isi : CallS K bIsi (rIsi K) := by
  intro xs z vs Hk H Q e ex r q qn
  unfold bIsi at e
  split at e
  · rename_i x T
    split at e
    · rename_i a b e1 e2
      cases e
      obtain ⟨v, w, rfl, r1, r2⟩ := rvs2' r
      obtain ⟨et, nb⟩ := kdOf_name e2
      refine ⟨v, w, _, .type T, _, rfl, ?_, ty_of ex r1 e1, ?_, q _ (RV.bl.mpr rfl)⟩
      · rw [RV.raw.mp r2]; exact .ty T
      · subst et; exact kit_ty (kit_kd a b nb)
    · cases e
  · cases e
end
section
variable {X : Cx} {c : Ct} {p pos : Pos} {e e2 : Expr} {es : List Expr} {a : MA}
theorem mb_len (hm : X.mg "len" = none) (ha : PA X [e] (rdA c a)) (hK : c.K = X.K := by rfl) (hg : Gl X "len" := by rfl) (he : starEach [e] X.env = (false, eval e X.env) :: starEach [] X.env := by rfl) (hpl : (backTo pos (starEach [] X.env)).any (·.1) = false := by rfl) : PE X (.Call (.Name "len" p) [e] [] pos) (rdE c (mBlt bLen a)) :=
  me_blt cr_lenM (by rw [← hK]; exact cs_len) hm PySem.boot_len ha hg (he := he) (hpl := hpl)
theorem mb_abs (hm : X.mg "abs" = none) (ha : PA X [e] (rdA c a)) (hg : Gl X "abs" := by rfl) (he : starEach [e] X.env = (false, eval e X.env) :: starEach [] X.env := by rfl) (hpl : (backTo pos (starEach [] X.env)).any (·.1) = false := by rfl) : PE X (.Call (.Name "abs" p) [e] [] pos) (rdE c (mBlt bAbs a)) :=
  me_blt call_abs cs_abs hm (by decide +kernel) ha hg (he := he) (hpl := hpl)
theorem mb_max (hc : X.calm = true) (hm : X.mg "max" = none) (ha : PA X [e, e2] (rdA c a)) (hg : Gl X "max" := by rfl) (he : starEach [e, e2] X.env = (false, eval e X.env) :: starEach [e2] X.env := by rfl) (hpl : (backTo pos (starEach [e2] X.env)).any (·.1) = false := by rfl) : PE X (.Call (.Name "max" p) [e, e2] [] pos) (rdE c (mBlt bMax a)) :=
  me_blt (call_max2 hc) cs_max hm (by decide +kernel) ha hg (he := he) (hpl := hpl)
theorem mb_min (hc : X.calm = true) (hm : X.mg "min" = none) (ha : PA X [e, e2] (rdA c a)) (hg : Gl X "min" := by rfl) (he : starEach [e, e2] X.env = (false, eval e X.env) :: starEach [e2] X.env := by rfl) (hpl : (backTo pos (starEach [e2] X.env)).any (·.1) = false := by rfl) : PE X (.Call (.Name "min" p) [e, e2] [] pos) (rdE c (mBlt bMin a)) :=
  me_blt (call_min2 hc) cs_min hm (by decide +kernel) ha hg (he := he) (hpl := hpl)
theorem mb_int (hm : X.mg "int" = none) (ha : PA X [e] (rdA c a)) (hg : Gl X "int" := by rfl) (he : starEach [e] X.env = (false, eval e X.env) :: starEach [] X.env := by rfl) (hpl : (backTo pos (starEach [] X.env)).any (·.1) = false := by rfl) : PE X (.Call (.Name "int" p) [e] [] pos) (rdE c (mBlt bInt a)) :=
  me_ty cr_intM cs_int hm (by decide +kernel) ha hg (he := he) (hpl := hpl)
theorem mb_tuple (hm : X.mg "tuple" = none) (ha : PA X [e] (rdA c a)) (hK : c.K = X.K := by rfl) (hg : Gl X "tuple" := by rfl) (he : starEach [e] X.env = (false, eval e X.env) :: starEach [] X.env := by rfl) (hpl : (backTo pos (starEach [] X.env)).any (·.1) = false := by rfl) : PE X (.Call (.Name "tuple" p) [e] [] pos) (rdE c (mBlt bTuple a)) :=
  me_ty call_tuple_of (by rw [← hK]; exact cs_tuple) hm (by decide +kernel) ha hg (he := he) (hpl := hpl)
theorem mb_list (hm : X.mg "list" = none) (ha : PA X [e] (rdA c a)) (hK : c.K = X.K := by rfl) (hg : Gl X "list" := by rfl) (he : starEach [e] X.env = (false, eval e X.env) :: starEach [] X.env := by rfl) (hpl : (backTo pos (starEach [] X.env)).any (·.1) = false := by rfl) : PE X (.Call (.Name "list" p) [e] [] pos) (rdE c (mBlt bList a)) :=
  me_ty (r := rListM X.K) call_list_of (by rw [← hK]; exact cs_list) hm (by decide +kernel) ha hg (he := he) (hpl := hpl)
def mListO (a : MA) : ME := fun ρ => (a ρ).bind fun xs ρ1 => match bList xs with | some (.lst ys) => .ok (.own ys, ρ1) | _ => .stuck
theorem mbo_list (hm : X.mg "list" = none) (ha : PA X [e] (rdA c a)) (hK : c.K = X.K := by rfl) (hg : Gl X "list" := by rfl) (he : starEach [e] X.env = (false, eval e X.env) :: starEach [] X.env := by rfl) (hpl : (backTo pos (starEach [] X.env)).any (·.1) = false := by rfl) : PE X (.Call (.Name "list" p) [e] [] pos) (rdO c (mListO a)) :=
  PEw (pe_callTy (r := rListM X.K) call_list_of hg hm (by decide +kernel) ha (he := he) (hpl := hpl)) fun σ H Q h => by
    obtain ⟨F, Hk, bp, ρ, S, h⟩ := h
    refine rdAw (bA postO S h) fun vs H1 ⟨Hk1, xs, ρ1, x1, S1, r1, h1⟩ => ?_
    split at h1
    · rename_i ys ey
      obtain ⟨q, ws, rfl, g, s⟩ := list_src ey S1.1.ex r1
      exact ⟨q, ws, rfl, by rw [← hK]; exact g, fun l hl => h1 _ _ _ (Ex.refl _) (S1.1.pushOwn hl s)⟩
    · exact h1.elim
theorem mb_all (hc : X.calm = true) (hm : X.mg "all" = none) (ha : PA X [e] (rdA c a)) (hK : c.K = X.K := by rfl) (hg : Gl X "all" := by rfl) (he : starEach [e] X.env = (false, eval e X.env) :: starEach [] X.env := by rfl) (hpl : (backTo pos (starEach [] X.env)).any (·.1) = false := by rfl) : PE X (.Call (.Name "all" p) [e] [] pos) (rdE c (mBlt bAll a)) :=
  me_blt (cr_all hc) (by rw [← hK]; exact cs_all) hm (by decide +kernel) ha hg (he := he) (hpl := hpl)
theorem mb_isi (hm : X.mg "isinstance" = none) (ha : PA X [e, e2] (rdA c a)) (hK : c.K = X.K := by rfl) (hg : Gl X "isinstance" := by rfl) (he : starEach [e, e2] X.env = (false, eval e X.env) :: starEach [e2] X.env := by rfl) (hpl : (backTo pos (starEach [e2] X.env)).any (·.1) = false := by rfl) : PE X (.Call (.Name "isinstance" p) [e, e2] [] pos) (rdE c (mBlt bIsi a)) :=
  me_blt call_isi (by rw [← hK]; exact cs_isi) hm (by decide +kernel) ha hg (he := he) (hpl := hpl)
end
end Tm
set_option Elab.async false
set_option linter.all false
set_option maxRecDepth 100000
set_option maxHeartbeats 2000000
namespace Tm
open PySem L2
open Evl (Ex ex_rd ex_l ex_t)
section
variable {X : Cx} {c : Ct} {p pos apos cpos : Pos} {e e2 : Expr} {es : List Expr} {a b : ME} {m : MA} {x : Str} {i : Nat}
def isOwn (ρ : Env) (i : Nat) : Bool := match ρ[i]? with | some (some (.own _)) => true | _ => false
theorem own_rs {F Hk H : Hp} {bp : List (Nat × Addr)} {σ : St} {ρ : Env} {i : Nat} (S : At c F Hk H bp σ ρ) (h : isOwn ρ i = true) : ∃ q vs, σ[i]? = some (some (.ref q)) ∧ H q = some (.lst vs) := by
  unfold isOwn at h
  split at h
  · rename_i xs e
    obtain ⟨q, vs, e1, e2, _⟩ := S.1.getOwn e
    exact ⟨q, vs, e1, e2⟩
  · cases h
theorem change_rs {F Hk H : Hp} {bp : List (Nat × Addr)} {σ : St} {ρ : Env} {i : Nat} {xs ys : List MV} {q : Addr} (S : At c F Hk H bp σ ρ) (h : ρ[i]? = some (some (.own xs))) (eq : σ[i]? = some (some (.ref q))) :
    ∃ vs, H q = some (.lst vs) ∧ RVs c.K Hk xs vs ∧ ∀ ws, RVs c.K Hk ys ws → RS c.K F Hk (upd H q (.lst ws)) bp σ (ρ.set i (some (.own ys))) := by
  obtain ⟨p, vs, e1, e2, e3, e4⟩ := S.1.change (ys := ys) h
  rw [eq] at e1
  cases e1
  exact ⟨vs, e2, e3, e4⟩
def mLm (f : List MV → List MV → Option (List MV × MV)) (i : Nat) (a : MA) : ME := fun ρ => if isOwn ρ i then (a ρ).bind fun ys ρ1 => match ρ1[i]? with
  | some (some (.own xs)) => (match f xs ys with | some (zs, z) => .ok (z, ρ1.set i (some (.own zs))) | none => .stuck)
  | _ => .stuck else .stuck
def LmS (K : PySem.W.Frag) (f : List MV → List MV → Option (List MV × MV)) (r : V → List V → Hp → VK → Prop) : Prop := ∀ (xs ys zs : List MV) (z : MV) (q : Addr) (vs us : List V) (Hk H : Hp) (Q : VK), f xs ys = some (zs, z) → Ex Hk H → H q = some (.lst vs) → RVs K Hk xs vs → RVs K Hk ys us →
  (∀ ws u, RVs K Hk zs ws → RV K Hk z u → Q u (upd H q (.lst ws))) → r (.ref q) us H Q
theorem rd_lm {f : List MV → List MV → Option (List MV × MV)} {r : V → List V → Hp → VK → Prop} (o : LmS c.K f r) {σ : St} {H : Hp} {Q : VK} (h : rdE c (mLm f i m) σ H Q) : tBM c.K "list" r (tVar i) (rdA c m) σ H Q := by
  obtain ⟨F, Hk, bp, ρ, S, h⟩ := h
  unfold mLm at h
  split at h
  · rename_i ho
    obtain ⟨q, vs0, eq, hq⟩ := own_rs S ho
    refine ⟨_, eq, .inl ⟨rfl, _, SqL.of hq⟩, ?_⟩
    refine rdAw (bA postE S h) fun us H1 ⟨Hk1, ys, ρ1, x1, S1, r1, h1⟩ => ?_
    split at h1
    · rename_i xs ex
      split at h1
      · rename_i zs z ef
        obtain ⟨vs, g1, g2, g3⟩ := change_rs (ys := zs) S1 ex eq
        exact o xs ys zs z q vs us Hk1 H1 Q ef S1.1.ex g1 g2 r1 fun ws u r2 r3 => h1 _ _ u (Ex.refl _) (g3 ws r2) r3
      · exact h1.elim
    · exact h1.elim
  · exact h.elim
def lmAppend : List MV → List MV → Option (List MV × MV)
  | xs, [y] => if decide (xs.length < sizeLine) then some (xs ++ [y], .non) else none
  | _, _ => none
theorem ls_append {K : PySem.W.Frag} : LmS K lmAppend rAppend := by
  intro xs ys zs z q vs us Hk H Q e ex hq r1 r2 k
  unfold lmAppend at e
  split at e
  · split at e
    · rename_i h
      cases e
      obtain ⟨v, rfl, rv⟩ := rvs1 r2
      refine ⟨q, vs, v, rfl, rfl, hq, by rw [r1.length]; exact of_decide_eq_true h, k _ _ (r1.append ?_) (RV.non.mpr rfl)⟩
      exact RVs.cons.mpr ⟨v, [], rfl, rv, RVs.nil.mpr rfl⟩
    · cases e
  · cases e
def lmExtend : List MV → List MV → Option (List MV × MV)
  | xs, [.lst ys] => if szOk (xs.length + ys.length) then some (xs ++ ys, .non) else none
  | _, _ => none
theorem ls_extend {K : PySem.W.Frag} : LmS K lmExtend rExtend := by
  intro xs ys zs z q vs us Hk H Q e ex hq r1 r2 k
  unfold lmExtend at e
  split at e
  · split at e
    · rename_i h
      cases e
      obtain ⟨v, rfl, rv⟩ := rvs1 r2
      obtain ⟨p1, ws, rfl, h1, s1⟩ := RV.lst.mp rv
      exact ⟨q, p1, vs, ws, rfl, rfl, hq, ex _ _ h1, by rw [r1.length, s1.length]; exact szOk_iff.mp h, k _ _ (r1.append s1) (RV.non.mpr rfl)⟩
    · cases e
  · cases e
theorem me_lm1 {f : List MV → List MV → Option (List MV × MV)} {r : V → List V → Hp → VK → Prop} {id : String} {name : Str} (o : LmS c.K f r) (slot : Slot "list" name id) (hty : typeOf (.builtin id) = pure (.type "method_descriptor")) (hm : MtR X id r) (hN : X.N[i]? = some x) (hv : Vis X.env.scope x) (ha : PA X (e :: es) (rdA c m)) (hK : c.K = X.K := by rfl)
    (hbase : attributeBase (.Name x p) name X.env (eval (.Name x p) X.env) = eval (.Name x p) X.env := by rfl)
    (hfew : ((backTo cpos (starEach (e :: es) X.env)).all (fun x => !x.1) && (backToKw cpos (keywordEach [] X.env)).all (fun x => x.1.isSome)
      && decide ((e :: es).length + ([] : List Keyword).length + (if ([] : List Keyword).isEmpty then 0 else 1) < 30)) = true := by rfl)
    (hline : (apos.endLine == cpos.line) = true := by rfl) (hs : starEach (e :: es) X.env = (false, eval e X.env) :: starEach es X.env := by rfl) (hplain : (backTo cpos (starEach es X.env)).any (·.1) = false := by rfl)
    (hd : (x == ("__debug__" : Str)) = false := by decide) (hcd : (x == ("__classdict__" : Str)) = false := by decide) : PE X (.Call (.Attribute (.Name x p) name apos) (e :: es) [] cpos) (rdE c (mLm f i m)) :=
  PEw (pe_bm PySem.F.plainAttrs_list slot hty hm (pe_var hN hv hd hcd) ha hbase hfew hline hs hplain) fun σ H Q h => by
    have := rd_lm o h
    rw [hK] at this
    exact this
def mSetIx (i : Nat) (a b : ME) : MS := fun ρ => (a ρ).bind fun z ρ1 => if has ρ1 i then (b ρ1).bind fun y ρ2 => match ρ2[i]?, y with
  | some (some (.own xs)), .int k => (match ixN xs.length k with | some j => .ok (.nx, ρ2.set i (some (.own (xs.set j z)))) | none => .stuck)
  | _, _ => .stuck else .stuck
theorem rd_setIx {D : Ends} {σ : St} {H : Hp} (h : rdS c (mSetIx i a b) D σ H) : tAsg (rdE c a) (gSub (tVar i) (rdE c b) rSetL) D σ H := by
  obtain ⟨F, Hk, bp, ρ, S, h⟩ := h
  refine rdw (bE (postS (σ := σ)) S h) fun v H1 ⟨Hk1, z, ρ1, x1, S1, r1, h1⟩ => ?_
  split at h1
  · rename_i hh
    obtain ⟨w, ew⟩ := has_rs S1 hh
    refine ⟨w, ew, ?_⟩
    refine rdw (bE (postS (σ := σ)) S1 h1) fun y' H2 ⟨Hk2, y, ρ2, x2, S2, r2, h2⟩ => ?_
    split at h2
    · rename_i xs k hx
      split at h2
      · rename_i j ej
        obtain ⟨q, vs, e1, _⟩ := S2.1.getOwn hx
        rw [ew] at e1
        cases e1
        obtain ⟨vs, g1, g2, g3⟩ := change_rs (ys := xs.set j z) S2 hx ew
        exact ⟨q, vs, k, j, rfl, RV.int.mp r2, g1, by rw [g2.length]; exact ej, h2 _ _ _ (Ex.refl _) (g3 _ (g2.set j (RV.mono x2 _ _ r1)))⟩
      · exact h2.elim
    · exact h2.elim
  · exact h1.elim
theorem ms_setIx {ee : Expr} (hN : X.N[i]? = some x) (hv : Vis X.env.scope x) (he : PE X e (rdE c a)) (hb : PE X ee (rdE c b)) (hs : swapsWithSole [.Subscript (.Name x p) ee apos] e pos.line X.env = pure false := by rfl) (hw : swappedStores [.Subscript (.Name x p) ee apos] e X.env = pure none := by rfl)
    (h1 : (assignEach [.Subscript (.Name x p) ee apos] X.env).map (·.2) = [assign (.Subscript (.Name x p) ee apos) X.env] := by rfl)
    (ha : ∀ v, assign (.Subscript (.Name x p) ee apos) X.env v = (do
      let ov ← holding [v] (eval (.Name x p) X.env)
      let iv ← holding [v, ov] (eval ee X.env)
      standAt apos
      holding [v, ov, iv] (setItem ov iv v)
      release [v, ov, iv] []) := by intro _; rfl)
    (hd : (x == ("__debug__" : Str)) = false := by decide) (hcd : (x == ("__classdict__" : Str)) = false := by decide) : PS X (.Assign [.Subscript (.Name x p) ee apos] e pos) (rdS c (mSetIx i a b)) :=
  PSw (ps_asg he (pg_sub (pe_var hN hv hd hcd) hb set_list ha) hs hw h1) fun _ _ _ h => rd_setIx h
end
end Tm
set_option Elab.async false
set_option linter.all false
set_option maxRecDepth 100000
set_option maxHeartbeats 2000000
namespace Tm
open PySem L2
open Evl (Ex ex_rd ex_l ex_t)
inductive Tgt where
  | nm (i : Nat) | tp (is : List Nat)
def gsOf : List Nat → TGs
  | [] => gNil
  | i :: is => gCons (gName i) (gsOf is)
def gOf (K : PySem.W.Frag) : Tgt → TG
  | .nm i => gName i
  | .tp is => gTup K is.length (gsOf is)
def setAll : List Nat → List MV → Env → Option Env
  | [], [], ρ => some ρ
  | i :: is, x :: xs, ρ => if i < ρ.length then setAll is xs (ρ.set i (some x)) else none
  | _, _, _ => none
def setT (t : Tgt) (x : MV) (ρ : Env) : Option Env := match t with
  | .nm i => if i < ρ.length then some (ρ.set i (some x)) else none
  | .tp is => match x with
    | .tup xs => if xs.length = is.length then setAll is xs ρ else none
    | _ => none
def Tgt.slots : Tgt → List Nat
  | .nm i => [i]
  | .tp is => is
theorem wipe_get (σ : St) : ∀ (vs : List Nat) (j : Nat), (wipe σ vs)[j]? = if j ∈ vs ∧ j < σ.length then some none else σ[j]?
  | [], j => by simp [wipe]
  | v :: vs, j => by
    unfold wipe
    by_cases e : v = j
    · subst e
      by_cases hl : v < σ.length
      · rw [List.getElem?_set_self (by rw [wipe_length]; exact hl), if_pos ⟨by simp, hl⟩]
      · rw [if_neg (by intro h; exact hl h.2), List.getElem?_eq_none (by rw [List.length_set, wipe_length]; omega), List.getElem?_eq_none (by omega)]
    · rw [List.getElem?_set_ne e, wipe_get σ vs j]
      by_cases hm : j ∈ vs ∧ j < σ.length
      · rw [if_pos hm, if_pos ⟨List.mem_cons_of_mem _ hm.1, hm.2⟩]
      · rw [if_neg hm, if_neg (fun h => hm ⟨(List.mem_cons.mp h.1).resolve_left (Ne.symm e), h.2⟩)]
theorem wipe_set {σ : St} {vs : List Nat} {i : Nat} {y : Option V} (h : i ∈ vs) : wipe (σ.set i y) vs = wipe σ vs := by
  refine List.ext_getElem? fun j => ?_
  rw [wipe_get, wipe_get, List.length_set]
  by_cases hm : j ∈ vs ∧ j < σ.length
  · rw [if_pos hm, if_pos hm]
  · rw [if_neg hm, if_neg hm]
    by_cases e : i = j
    · subst e
      have : σ.length ≤ i := Nat.le_of_not_lt fun z => hm ⟨h, z⟩
      rw [List.getElem?_eq_none (by simpa using this), List.getElem?_eq_none this]
    · rw [List.getElem?_set_ne e]
theorem wipe_wipe (σ : St) (vs : List Nat) : wipe (wipe σ vs) vs = wipe σ vs := by
  refine List.ext_getElem? fun j => ?_
  rw [wipe_get, wipe_length, wipe_get]
  by_cases hm : j ∈ vs ∧ j < σ.length
  · rw [if_pos hm, if_pos hm]
  · rw [if_neg hm]
def wipeM (ρ : Env) : List Nat → Env
  | [] => ρ
  | v :: vs => (wipeM ρ vs).set v none
theorem wipeM_len (ρ : Env) : ∀ vs : List Nat, (wipeM ρ vs).length = ρ.length
  | [] => rfl
  | v :: vs => by unfold wipeM; rw [List.length_set, wipeM_len ρ vs]
theorem wipeM_get (σ : Env) : ∀ (vs : List Nat) (j : Nat), (wipeM σ vs)[j]? = if j ∈ vs ∧ j < σ.length then some none else σ[j]?
  | [], j => by simp [wipeM]
  | v :: vs, j => by
    unfold wipeM
    by_cases e : v = j
    · subst e
      by_cases hl : v < σ.length
      · rw [List.getElem?_set_self (by rw [wipeM_len]; exact hl), if_pos ⟨by simp, hl⟩]
      · rw [if_neg (by intro h; exact hl h.2), List.getElem?_eq_none (by rw [List.length_set, wipeM_len]; omega), List.getElem?_eq_none (by omega)]
    · rw [List.getElem?_set_ne e, wipeM_get σ vs j]
      by_cases hm : j ∈ vs ∧ j < σ.length
      · rw [if_pos hm, if_pos ⟨List.mem_cons_of_mem _ hm.1, hm.2⟩]
      · rw [if_neg hm, if_neg (fun h => hm ⟨(List.mem_cons.mp h.1).resolve_left (Ne.symm e), h.2⟩)]
def perAt (ρ : Env) (vs : List Nat) : Bool := vs.all fun i => match ρ[i]? with
  | some (some x) => x.per
  | _ => true
def backM (ρ ρ' : Env) (vs : List Nat) : Env := vs.foldl (fun r i => r.set i ((ρ[i]?).join)) ρ'
section
variable {K : PySem.W.Frag} {F Hk H : Hp} {bp : List (Nat × Addr)} {σ : St} {ρ : Env}
theorem SL.setNone {ow : Nat → List Addr} (S : SL K F Hk H ow σ ρ) {i : Nat} : SL K F Hk H (put ow i []) (σ.set i none) (ρ.set i none) := by
  refine ⟨fun j y h => ?_, fun j a h => ?_, fun j h => ?_, fun j k a hjk h => ?_⟩
  · rcases set_get h with ⟨_, e⟩ | ⟨ne, e⟩
    · cases e
    · obtain ⟨u, e1, e2⟩ := S.s j y e
      exact ⟨u, by rw [List.getElem?_set_ne (Ne.symm ne)]; exact e1, by rw [put_ne ne]; exact e2⟩
  · by_cases e : j = i
    · rw [e, put_same] at h; cases h
    · rw [put_ne e] at h; exact S.f j a h
  · by_cases e : j = i
    · rw [e, put_same] at h; exact (h rfl).elim
    · rw [put_ne e] at h; rw [List.length_set]; exact S.w j h
  · by_cases e : j = i
    · rw [e, put_same] at h; cases h
    · rw [put_ne e] at h
      by_cases e2 : k = i
      · rw [e2, put_same]; simp
      · rw [put_ne e2]; exact S.d j k a hjk h
theorem RS.setNone (S : RS K F Hk H bp σ ρ) {i : Nat} (hb : ∀ q ∈ bp, q.1 ≠ i) : RS K F Hk H bp (σ.set i none) (ρ.set i none) := by
  obtain ⟨ow, s⟩ := S.ow
  exact ⟨by simp [S.len], S.ex, S.fr, S.frk, ⟨_, s.setNone⟩, fun q hq => by rw [List.getElem?_set_ne (Ne.symm (hb q hq))]; exact S.bor q hq⟩
theorem RS.wipe (S : RS K F Hk H bp σ ρ) : ∀ vs : List Nat, (∀ q ∈ bp, q.1 ∉ vs) → RS K F Hk H bp (L2.wipe σ vs) (wipeM ρ vs)
  | [], _ => S
  | v :: vs, hb => (RS.wipe S vs fun q hq z => hb q hq (List.mem_cons_of_mem _ z)).setNone fun q hq z => hb q hq (by rw [z]; simp)
theorem RS.back (S : RS K F Hk H bp (L2.wipe σ vs) (wipeM ρ' vs)) (S0 : ∀ i ∈ vs, ∀ x, ρ[i]? = some (some x) → ∃ v, σ[i]? = some (some v) ∧ RV K Hk x v) (hl : ρ.length = ρ'.length) (hl2 : σ.length = ρ.length) (hb : ∀ q ∈ bp, q.1 ∉ vs) : RS K F Hk H bp σ (backM ρ ρ' vs) := by
  have gb : ∀ (vs : List Nat) (r : Env) (j : Nat), r.length = ρ.length → (vs.foldl (fun r i => r.set i ((ρ[i]?).join)) r)[j]? = if j ∈ vs ∧ j < ρ.length then some ((ρ[j]?).join) else r[j]? := fun vs => by
    induction vs with
    | nil => intro r j _; simp
    | cons v vs ih =>
      intro r j hr
      rw [List.foldl_cons, ih _ j (by rw [List.length_set]; exact hr)]
      by_cases hm : j ∈ vs ∧ j < ρ.length
      · rw [if_pos hm, if_pos ⟨List.mem_cons_of_mem _ hm.1, hm.2⟩]
      · rw [if_neg hm]
        by_cases e : v = j
        · subst e
          by_cases hl : v < ρ.length
          · rw [List.getElem?_set_self (by rw [hr]; exact hl), if_pos ⟨by simp, hl⟩]
          · rw [if_neg (by intro h; exact hl h.2), List.getElem?_eq_none (by rw [List.length_set, hr]; omega), List.getElem?_eq_none (by omega)]
        · rw [List.getElem?_set_ne e, if_neg (fun h => hm ⟨(List.mem_cons.mp h.1).resolve_left (Ne.symm e), h.2⟩)]
  have gl : ∀ (vs : List Nat) (r : Env), (vs.foldl (fun r i => r.set i ((ρ[i]?).join)) r).length = r.length := fun vs => by
    induction vs with
    | nil => intro r; rfl
    | cons v vs ih => intro r; rw [List.foldl_cons, ih, List.length_set]
  obtain ⟨ow, s⟩ := S.ow
  have lb : (backM ρ ρ' vs).length = ρ.length := by unfold backM; rw [gl, ← hl]
  refine ⟨by rw [lb, hl2], S.ex, S.fr, S.frk, ⟨fun j => if j ∈ vs then [] else ow j, fun j y h => ?_, fun j a h => ?_, fun j h => ?_, fun j k a hjk h => ?_⟩, fun q hq => ?_⟩
  · unfold backM at h
    rw [gb vs ρ' j hl.symm] at h
    by_cases hm : j ∈ vs ∧ j < ρ.length
    · rw [if_pos hm] at h
      have e : ρ[j]? = some (some y) := by
        cases er : ρ[j]? with
        | none => rw [er] at h; cases h
        | some o => rw [er] at h; cases o with
          | none => cases h
          | some z => cases h; rfl
      obtain ⟨v, e1, r⟩ := S0 j hm.1 y e
      exact ⟨v, e1, by rw [if_pos hm.1]; exact r.ov⟩
    · rw [if_neg hm] at h
      have nj : j ∉ vs := fun z => hm ⟨z, by rw [hl]; exact lt_get h⟩
      obtain ⟨v, e1, o⟩ := s.s j y (by rw [wipeM_get, if_neg (fun z => nj z.1)]; exact h)
      rw [wipe_get, if_neg (fun z => nj z.1)] at e1
      exact ⟨v, e1, by rw [if_neg nj]; exact o⟩
  · by_cases e : j ∈ vs
    · rw [if_pos e] at h; cases h
    · rw [if_neg e] at h; exact s.f j a h
  · by_cases e : j ∈ vs
    · rw [if_pos e] at h; exact (h rfl).elim
    · rw [if_neg e] at h; have := s.w j h; rw [wipeM_len] at this; rw [lb, hl]; exact this
  · by_cases e : j ∈ vs
    · rw [if_pos e] at h; cases h
    · rw [if_neg e] at h
      by_cases e2 : k ∈ vs
      · rw [if_pos e2]; simp
      · rw [if_neg e2]; exact s.d j k a hjk h
  · have := S.bor q hq
    rw [wipe_get, if_neg (fun z => hb q hq z.1)] at this
    exact this
end
section
variable {X : Cx} {c : Ct}
theorem gs_rd {F Hk H : Hp} {bp : List (Nat × Addr)} {vs0 : List Nat} (hb : ∀ q ∈ bp, q.1 ∉ vs0) : ∀ (is : List Nat) (xs : List MV) (ws : List V) (σ : St) (ρ ρ' : Env) (Q : St → Hp → Prop), (∀ i ∈ is, i ∈ vs0) → RS c.K F Hk H bp σ ρ → RVs c.K Hk xs ws → setAll is xs ρ = some ρ' →
    (∀ σ', RS c.K F Hk H bp σ' ρ' → wipe σ' vs0 = wipe σ vs0 → Q σ' H) → gsOf is ws σ H Q
  | [], [], ws, σ, ρ, ρ', Q, _, S, r, e, k => by
    cases e
    exact ⟨RVs.nil.mp r, k σ S rfl⟩
  | [], x :: xs, ws, σ, ρ, ρ', Q, _, S, r, e, k => by cases e
  | i :: is, [], ws, σ, ρ, ρ', Q, _, S, r, e, k => by cases e
  | i :: is, x :: xs, ws, σ, ρ, ρ', Q, hi, S, r, e, k => by
    obtain ⟨v, us, rfl, r1, r2⟩ := RVs.cons.mp r
    unfold setAll at e
    split at e
    · rename_i hl
      have hm := hi i (by simp)
      refine ⟨v, us, rfl, ?_⟩
      refine gs_rd hb is xs us _ _ ρ' Q (fun j hj => hi j (List.mem_cons_of_mem _ hj)) (S.set hl r1 fun q hq z => hb q hq (z ▸ hm)) r2 e fun σ' S' w => k σ' S' (by rw [w, wipe_set hm])
    · cases e
theorem g_rd {F Hk H : Hp} {bp : List (Nat × Addr)} {vs0 : List Nat} (hb : ∀ q ∈ bp, q.1 ∉ vs0) {t : Tgt} {x : MV} {v : V} {σ : St} {ρ ρ' : Env} {Q : St → Hp → Prop} (hi : ∀ i ∈ t.slots, i ∈ vs0) (S : RS c.K F Hk H bp σ ρ) (r : RV c.K Hk x v) (e : setT t x ρ = some ρ')
    (k : ∀ σ', RS c.K F Hk H bp σ' ρ' → wipe σ' vs0 = wipe σ vs0 → Q σ' H) : gOf c.K t v σ H Q := by
  cases t with
  | nm i =>
    have e : (if i < ρ.length then some (ρ.set i (some x)) else none) = some ρ' := e
    split at e
    · rename_i hl
      cases e
      have hm := hi i (by simp [Tgt.slots])
      exact k _ (S.set hl r fun q hq z => hb q hq (z ▸ hm)) (wipe_set hm)
    · cases e
  | tp is =>
    cases x with
    | tup xs =>
      have e : (if xs.length = is.length then setAll is xs ρ else none) = some ρ' := e
      split at e
      · rename_i hl
        obtain ⟨a, ws, rfl, h1, s1⟩ := RV.tup.mp r
        exact ⟨a, ws, rfl, ex_t S.ex h1, by rw [s1.length, hl], gs_rd hb is xs ws σ ρ ρ' Q hi S s1 e k⟩
      · cases e
    | _ => cases e
def Res.b0 {α β : Type} (r : Res (α × Env)) (f : α → Env → Res (β × Env)) : Res (β × Env) :=
  match r with
  | .ok (x, ρ) => f x ρ
  | _ => .stuck
def mLcLoop (g : Tgt) (t : MT) (e : ME) (vs : List Nat) : List MV → List MV → Env → Res (List MV × Env)
  | [], acc, ρ => .ok (acc, ρ)
  | x :: xs, acc, ρ => match setT g x (wipeM ρ vs) with
    | none => .stuck
    | some ρ1 => (t ρ1).b0 fun b ρ2 => if b then (e ρ2).b0 fun y ρ3 => (if acc.length < sizeLine ∧ ρ3.length = ρ.length then mLcLoop g t e vs xs (acc ++ [y]) ρ3 else .stuck) else if ρ2.length = ρ.length then mLcLoop g t e vs xs acc ρ2 else .stuck
def mYes : MT := fun ρ => .ok (true, ρ)
def mLcO (it : MI) (g : Tgt) (t : MT) (e : ME) (vs : List Nat) : ME := fun ρ => (it ρ).bind fun xs ρ1 => if perAt ρ1 vs then (mLcLoop g t e vs xs [] ρ1).b0 fun ys ρ2 => .ok (.own ys, backM ρ1 ρ2 vs) else .stuck
theorem b0E {F Hk H : Hp} {bp : List (Nat × Addr)} {σ : St} {ρ : Env} {β : Type} {P : Hp → Res (β × Env) → Prop} (st : ∀ Hk, ¬ P Hk .stuck) (mo : ∀ Hk Hk' r, Ex Hk Hk' → P Hk r → P Hk' r) {a : ME} {k : MV → Env → Res (β × Env)} (S : At c F Hk H bp σ ρ) (h : P Hk ((a ρ).b0 k)) :
    rdE c a σ H fun v H1 => ∃ Hk1 x ρ1, Ex Hk Hk1 ∧ At c F Hk1 H1 bp σ ρ1 ∧ RV c.K Hk1 x v ∧ P Hk1 (k x ρ1) := by
  refine ⟨F, Hk, bp, ρ, S, ?_⟩
  cases e : a ρ with
  | stuck => rw [e] at h; exact st _ h
  | exc x ρ' => rw [e] at h; exact (st _ h).elim
  | ok q =>
    rw [e] at h
    exact fun Hk1 H1 v x1 S1 r1 => ⟨Hk1, q.1, q.2, x1, ⟨S1, S.2⟩, r1, mo _ _ _ x1 h⟩
theorem b0T {F Hk H : Hp} {bp : List (Nat × Addr)} {σ : St} {ρ : Env} {β : Type} {P : Hp → Res (β × Env) → Prop} (st : ∀ Hk, ¬ P Hk .stuck) (mo : ∀ Hk Hk' r, Ex Hk Hk' → P Hk r → P Hk' r) {a : MT} {k : Bool → Env → Res (β × Env)} (S : At c F Hk H bp σ ρ) (h : P Hk ((a ρ).b0 k)) :
    rdT c a σ H fun b H1 => ∃ Hk1 ρ1, Ex Hk Hk1 ∧ At c F Hk1 H1 bp σ ρ1 ∧ P Hk1 (k b ρ1) := by
  refine ⟨F, Hk, bp, ρ, S, ?_⟩
  cases e : a ρ with
  | stuck => rw [e] at h; exact st _ h
  | exc x ρ' => rw [e] at h; exact (st _ h).elim
  | ok q =>
    rw [e] at h
    exact fun Hk1 H1 x1 S1 => ⟨Hk1, q.2, x1, ⟨S1, S.2⟩, mo _ _ _ x1 h⟩
def okB (c : Ct) (F Hk : Hp) (bp : List (Nat × Addr)) (σ : St) (Q : VK) (ρ0 : Env) (vs : List Nat) : Res (List MV × Env) → Prop
  | .ok (ys, ρ') => okO c F Hk bp σ Q (.ok (.own ys, backM ρ0 ρ' vs))
  | _ => False
theorem okB.mono {F Hk Hk' : Hp} {bp : List (Nat × Addr)} {σ : St} {Q : VK} {ρ0 : Env} {vs : List Nat} {r : Res (List MV × Env)} (x : Ex Hk Hk') (h : okB c F Hk bp σ Q ρ0 vs r) : okB c F Hk' bp σ Q ρ0 vs r := by
  cases r with
  | ok a => exact okO.mono (r := .ok (.own a.1, backM ρ0 a.2 vs)) x h
  | exc e ρ => exact h
  | stuck => exact h
theorem RS.inFr {K : PySem.W.Frag} {F Hk H : Hp} {bp : List (Nat × Addr)} {σ : St} {ρ : Env} {D : Addr} {xs : List V} (S : RS K F Hk H bp σ ρ) (h : H D = none) : RS K (upd F D (.lst xs)) Hk (upd H D (.lst xs)) bp σ ρ := by
  have S' := S.more (o := .lst xs) h
  obtain ⟨ow, s⟩ := S.ow
  refine ⟨S.len, S'.ex, S.fr.both h, fun a o ha => ?_, ⟨ow, fun i x hx => ?_, fun i a ha => ?_, s.w, s.d⟩, S.bor⟩
  · by_cases e : a = D
    · rw [e]; exact S.ex.back h
    · rw [upd_ne e] at ha; exact S.frk a o ha
  · obtain ⟨v, ev, o⟩ := s.s i x hx
    exact ⟨v, ev, o.move (Ex.refl _) fun a ha u hu => by rw [upd_ne (ne_of_none hu h)]; exact hu⟩
  · obtain ⟨g1, g2, o, g3⟩ := s.f i a ha
    have ne := ne_of_none g3 h
    exact ⟨g1, by rw [upd_ne ne]; exact g2, o, by rw [upd_ne ne]; exact g3⟩
theorem RS.grow {K : PySem.W.Frag} {F Hk H : Hp} {bp : List (Nat × Addr)} {σ : St} {ρ : Env} {D : Addr} {xs ys : List V} (S : RS K (upd F D (.lst xs)) Hk H bp σ ρ) : RS K (upd F D (.lst ys)) Hk (upd H D (.lst ys)) bp σ ρ := by
  have hk : Hk D = none := S.frk D _ upd_same
  obtain ⟨ow, s⟩ := S.ow
  have nd : ∀ i a, a ∈ ow i → a ≠ D := fun i a ha e => by
    have := (s.f i a ha).2.1
    rw [e, upd_same] at this
    cases this
  refine ⟨S.len, S.ex.mut hk, fun a o ha => ?_, fun a o ha => ?_, ⟨ow, fun i x hx => ?_, fun i a ha => ?_, s.w, s.d⟩, S.bor⟩
  · by_cases e : a = D
    · subst e; rw [upd_same] at ha ⊢; exact ha
    · rw [upd_ne e] at ha ⊢; exact S.fr a o (by rw [upd_ne e]; exact ha)
  · by_cases e : a = D
    · rw [e]; exact hk
    · rw [upd_ne e] at ha; exact S.frk a o (by rw [upd_ne e]; exact ha)
  · obtain ⟨v, ev, o⟩ := s.s i x hx
    exact ⟨v, ev, o.move (Ex.refl _) fun a ha u hu => by rw [upd_ne (nd i a ha)]; exact hu⟩
  · obtain ⟨g1, g2, o, g3⟩ := s.f i a ha
    exact ⟨g1, by have := nd i a ha; rw [upd_ne this] at g2 ⊢; exact g2, o, by rw [upd_ne (nd i a ha)]; exact g3⟩
theorem RS.outFr {K : PySem.W.Frag} {F Hk H : Hp} {bp : List (Nat × Addr)} {σ : St} {ρ : Env} {D : Addr} {vs : List V} {xs : List MV} (S : RS K (upd F D (.lst vs)) Hk H bp σ ρ) (hF : F D = none) (r : RVs K Hk xs vs) : RS K F Hk H bp (σ ++ [some (.ref D)]) (ρ ++ [some (.own xs)]) := by
  have hk : Hk D = none := S.frk D _ upd_same
  have hH : H D = some (.lst vs) := S.fr D _ upd_same
  have up : ∀ a o, F a = some o → upd F D (.lst vs) a = some o := fun a o ha => by rw [upd_ne (ne_of_none ha hF)]; exact ha
  obtain ⟨ow, s⟩ := S.ow
  have nd : ∀ i a, a ∈ ow i → a ≠ D := fun i a ha e => by
    have := (s.f i a ha).2.1
    rw [e, upd_same] at this
    cases this
  have s' : SL K F Hk H ow σ ρ := ⟨s.s, fun i a ha => by
    obtain ⟨g1, g2, g3⟩ := s.f i a ha
    exact ⟨g1, by rw [upd_ne (nd i a ha)] at g2; exact g2, g3⟩, s.w, s.d⟩
  refine ⟨by simp [S.len], S.ex, fun a o ha => S.fr a o (up a o ha), fun a o ha => S.frk a o (up a o ha), ⟨_, s'.push S.len (A := [D]) (OV.own.mpr ⟨D, vs, rfl, rfl, hH, r⟩) (fun a ha => ?_) (fun i a ha hi => ?_)⟩, S.bor_app _⟩
  · simp at ha; subst ha; exact ⟨hk, hF⟩
  · simp at ha; subst ha; exact nd i a hi rfl
theorem rd_lc {it : MI} {g : Tgt} {t : MT} {e : ME} {vs : List Nat} {σ : St} {H : Hp} {Q : VK} (hg : ∀ i ∈ g.slots, i ∈ vs) (hbs : ∀ i ∈ vs, c.bs.contains i = false) (h : rdO c (mLcO it g t e vs) σ H Q) : tLc (rdI c it) (gOf c.K g) (rdT c t) (rdE c e) vs σ H Q := by
  obtain ⟨F, Hk, bp, ρ, S, h⟩ := h
  have hb : ∀ q ∈ bp, q.1 ∉ vs := fun q hq z => nb S.2.1 (hbs _ z) q hq rfl
  refine ⟨F, Hk, bp, ρ, S, ?_⟩
  have h : okO c F Hk bp σ Q ((it ρ).bind fun xs ρ1 => if perAt ρ1 vs then (mLcLoop g t e vs xs [] ρ1).b0 fun ys ρ2 => .ok (.own ys, backM ρ1 ρ2 vs) else .stuck) := h
  cases ei : it ρ with
  | stuck => rw [ei] at h; exact h
  | exc x ρ' => rw [ei] at h; exact h
  | ok p =>
    obtain ⟨xs, ρ1⟩ := p
    rw [ei] at h
    intro Hk1 H1 J x1 S1 wk D hD
    have h : okO c F Hk1 bp σ Q (if perAt ρ1 vs then (mLcLoop g t e vs xs [] ρ1).b0 fun ys ρ2 => .ok (.own ys, backM ρ1 ρ2 vs) else .stuck) := okO.mono x1 h
    split at h
    · rename_i hper
      have h : okB c F Hk1 bp σ Q ρ1 vs (mLcLoop g t e vs xs [] ρ1) := by
        cases e2 : mLcLoop g t e vs xs [] ρ1 with
        | ok q => rw [e2] at h; exact h
        | exc x r => rw [e2] at h; exact h
        | stuck => rw [e2] at h; exact h
      have fD : F D = none := by
        cases e : F D with
        | none => rfl
        | some o => have := S1.fr D o e; rw [hD] at this; cases this
      have p0 : ∀ i ∈ vs, ∀ x, ρ1[i]? = some (some x) → ∃ v, σ[i]? = some (some v) ∧ RV c.K Hk1 x v := fun i hi x hx => by
        have z := List.all_eq_true.mp hper i hi
        rw [hx] at z
        exact S1.get hx z
      refine ⟨fun i m H' => m = xs.length - i ∧ i ≤ xs.length ∧ ∃ Hk' ρ' acc ws, Ex Hk1 Hk' ∧ RS c.K (upd F D (.lst ws)) Hk' H' bp (wipe σ vs) (wipeM ρ' vs) ∧ RVs c.K Hk' acc ws ∧ ρ'.length = ρ1.length ∧ okB c F Hk' bp σ Q ρ1 vs (mLcLoop g t e vs (xs.drop i) acc ρ'),
        ⟨xs.length, by simp, Nat.zero_le _, Hk1, ρ1, [], [], Ex.refl _, (S1.wipe vs hb).inFr hD, RVs.nil.mpr rfl, rfl, h⟩, ?_⟩
      rintro i m H' ⟨rfl, hi, Hk', ρ', acc, ws, x', S', ra, hl, h'⟩
      by_cases hlt : i < xs.length
      · refine .inr ⟨wk.go i H' (x'.trans S'.ex) hlt, fun H2 => ∃ Hk2 ρ2 acc2 ws2, Ex Hk1 Hk2 ∧ RS c.K (upd F D (.lst ws2)) Hk2 H2 bp (wipe σ vs) (wipeM ρ2 vs) ∧ RVs c.K Hk2 acc2 ws2 ∧ ρ2.length = ρ1.length ∧ okB c F Hk2 bp σ Q ρ1 vs (mLcLoop g t e vs (xs.drop (i + 1)) acc2 ρ2),
          fun H2 z => ⟨xs.length - (i + 1), by omega, rfl, hlt, z⟩, fun x H2 y => ?_⟩
        obtain ⟨z, ez, hz⟩ := wk.yld i H' x H2 (x'.trans S'.ex) hlt y
        have ed : xs.drop i = z :: xs.drop (i + 1) := by
          rw [List.drop_eq_getElem_cons hlt]
          rw [List.getElem?_eq_getElem hlt] at ez
          cases ez; rfl
        rw [ed] at h'
        have st : ∀ Hk, ¬ okB c F Hk bp σ Q ρ1 vs .stuck := fun _ f => f
        have mo : ∀ Hk Hk' r, Ex Hk Hk' → okB c F Hk bp σ Q ρ1 vs r → okB c F Hk' bp σ Q ρ1 vs r := fun _ _ _ x h => okB.mono x h
        have fin : ∀ Hk3, Ex Hk' Hk3 → RS c.K (upd F D (.lst ws)) Hk3 H2 bp (wipe σ vs) (wipeM ρ' vs) → RV c.K Hk3 z x →
            gOf c.K g x (wipe σ vs) H2 fun σ2 H2 => wipe σ2 vs = wipe σ vs ∧ rdT c t σ2 H2 fun b H3 => if b = true then rdE c e σ2 H3 fun y H4 => ∃ acc, H4 D = some (.lst acc) ∧ acc.length < sizeLine ∧
              (∃ Hk2 ρ2 acc2 ws2, Ex Hk1 Hk2 ∧ RS c.K (upd F D (.lst ws2)) Hk2 (upd H4 D (.lst (acc ++ [y]))) bp (wipe σ vs) (wipeM ρ2 vs) ∧ RVs c.K Hk2 acc2 ws2 ∧ ρ2.length = ρ1.length ∧ okB c F Hk2 bp σ Q ρ1 vs (mLcLoop g t e vs (xs.drop (i + 1)) acc2 ρ2)) else
              ∃ Hk2 ρ2 acc2 ws2, Ex Hk1 Hk2 ∧ RS c.K (upd F D (.lst ws2)) Hk2 H3 bp (wipe σ vs) (wipeM ρ2 vs) ∧ RVs c.K Hk2 acc2 ws2 ∧ ρ2.length = ρ1.length ∧ okB c F Hk2 bp σ Q ρ1 vs (mLcLoop g t e vs (xs.drop (i + 1)) acc2 ρ2) := fun Hk3 x3 S3 r3 => by
          have h' := okB.mono x3 h'
          unfold mLcLoop at h'
          cases eg : setT g z (wipeM ρ' vs) with
          | none => rw [eg] at h'; exact h'.elim
          | some ρ3 =>
            rw [eg] at h'
            refine g_rd hb hg S3 r3 eg fun σ2 S4 w2 => ⟨by rw [w2, wipe_wipe], ?_⟩
            have w2' : wipe σ2 vs = wipe σ vs := by rw [w2, wipe_wipe]
            refine rdTw (b0T st mo ⟨S4, S.2.1, c.Jm _ _ _ (Ex.new fD) S.2.2⟩ h') fun b H3 ⟨Hk4, ρ4, x4, S5, h5⟩ => ?_
            cases b with
            | true =>
              rw [if_pos rfl] at h5 ⊢
              refine rdw (b0E st mo S5 h5) fun y H4 ⟨Hk5, yy, ρ5, x5, S6, r6, h6⟩ => ?_
              split at h6
              · rename_i hz
                have ra' := ra.mono (x3.trans (x4.trans x5))
                refine ⟨ws, S6.1.fr D _ upd_same, by rw [ra'.length]; exact hz.1, Hk5, ρ5, acc ++ [yy], ws ++ [y], x'.trans (x3.trans (x4.trans x5)), ?_, ra'.append (RVs.cons.mpr ⟨y, [], rfl, r6, RVs.nil.mpr rfl⟩), by rw [hz.2, hl], h6⟩
                have := (S6.1.wipe vs hb)
                rw [w2'] at this
                exact this.grow
              · exact h6.elim
            | false =>
              rw [if_neg (by decide)] at h5 ⊢
              split at h5
              · rename_i hz
                refine ⟨Hk4, ρ4, acc, ws, x'.trans (x3.trans x4), ?_, ra.mono (x3.trans x4), by rw [hz, hl], h5⟩
                have := (S5.1.wipe vs hb)
                rw [w2'] at this
                exact this
              · exact h5.elim
        rcases hz with ⟨rfl, r⟩ | ⟨p, us, ys, hp, rfl, rfl, rfl, r⟩
        · exact fin Hk' (Ex.refl _) S' (RV.mono x' _ _ r)
        · have xn := Ex.new (o := .tup us) (S'.ex.back hp)
          exact fin _ xn (S'.new hp) (RV.tup.mpr ⟨p, us, rfl, SqT.of upd_same, r.mono (x'.trans xn)⟩)
      · have e : i = xs.length := by omega
        subst e
        rw [List.drop_length] at h'
        refine .inl ⟨wk.stop H' (x'.trans S'.ex), ?_⟩
        have out := S'.outFr fD ra
        have bk : RS c.K (upd F D (.lst ws)) Hk' H' bp σ (backM ρ1 ρ' vs) := RS.back S' (fun i hi x hx => by
          obtain ⟨v, ev, rv⟩ := p0 i hi x hx
          exact ⟨v, ev, RV.mono x' _ _ rv⟩) hl.symm S1.len hb
        exact h' _ _ _ (Ex.refl _) (bk.outFr fD ra)
    · exact h.elim
end
end Tm
set_option Elab.async false
set_option linter.all false
set_option maxRecDepth 100000
set_option maxHeartbeats 2000000
namespace Tm
open PySem L2
theorem hbs_of {bs vs : List Nat} (h : (vs.all fun v => !bs.contains v) = true) : ∀ i ∈ vs, bs.contains i = false := fun i hi => by
  have := List.all_eq_true.mp h i hi
  simpa using this
open Evl (Ex ex_rd ex_l ex_t)
section
variable {X : Cx} {c : Ct} {elt tg iter : Expr} {ifs : List Expr} {scope : Scope} {own : List (Str × Nat)} {pos : Pos} {it : MI} {g : Tgt} {t : MT} {e : ME}
theorem mts_nil : PTs X [] (rdT c mYes) := ⟨fun pins s σ H Q I ⟨F, Hk, bp, ρ, S, h⟩ => pts_nil.run pins s σ H Q I (h _ _ (Ex.refl _) S.1)⟩
theorem mts_one {a : Expr} (h : PT X a (rdT c t)) : PTs X [a] (rdT c t) := pts_one h
theorem mo_lc (hc : X.calm = true) (hN : X.N.Nodup) (hi : PI X tg iter (rdI c it)) (ok : BlkOk X.N X.env.scope scope own) (hg : ∀ (s : Shared) (H : Hp) (C : Addr) (cl : List (Str × Addr)) (fp : List Addr), PG (X.blk s H scope (compEnvC scope cl C X.env) fp) tg (gOf X.K g))
    (ht : ∀ (s : Shared) (H : Hp) (C : Addr) (cl : List (Str × Addr)) (fp : List Addr), PTs (X.blk s H scope (compEnvC scope cl C X.env) fp) ifs (rdT c t)) (he : ∀ (s : Shared) (H : Hp) (C : Addr) (cl : List (Str × Addr)) (fp : List Addr), PE (X.blk s H scope (compEnvC scope cl C X.env) fp) elt (rdE c e))
    (hgs : ∀ i ∈ g.slots, i ∈ own.map (·.2) := by decide) (hbs : ∀ i ∈ own.map (·.2), c.bs.contains i = false := by decide) (hK : c.K = X.K := by rfl) (hs : ∀ x, foldedSetIterable iter X.env x = pure x := by intro _; rfl) :
    PE X (.ListComp elt [⟨tg, iter, ifs, 0⟩] scope pos) (rdO c (mLcO it g t e (own.map (·.2)))) := PEw (pe_lc hc hN hi ok hg ht he hs) fun σ H Q h => by rw [← hK]; exact rd_lc hgs hbs h
theorem ms_setLc {i : Nat} {y : Str} {py spos : Pos} (hc : X.calm = true) (hN : X.N.Nodup) (hy : X.N[i]? = some y) (hyl : X.env.scope.names.lookup y = some .local) (hsw : swapsWith (.ListComp elt [⟨tg, iter, ifs, 0⟩] scope pos) (some (.Name y py)) spos.line X.env = pure true)
    (hi : PI X tg iter (rdI c it)) (ok : BlkOk X.N X.env.scope scope own) (hg : ∀ (s : Shared) (H : Hp) (C : Addr) (cl : List (Str × Addr)) (fp : List Addr), PG (X.blk s H scope (compEnvC scope cl C X.env) fp) tg (gOf X.K g))
    (ht : ∀ (s : Shared) (H : Hp) (C : Addr) (cl : List (Str × Addr)) (fp : List Addr), PTs (X.blk s H scope (compEnvC scope cl C X.env) fp) ifs (rdT c t)) (he : ∀ (s : Shared) (H : Hp) (C : Addr) (cl : List (Str × Addr)) (fp : List Addr), PE (X.blk s H scope (compEnvC scope cl C X.env) fp) elt (rdE c e))
    (hb : c.bs.contains i = false := by rfl) (hgs : ∀ i ∈ g.slots, i ∈ own.map (·.2) := by decide) (hbs : ∀ i ∈ own.map (·.2), c.bs.contains i = false := by decide) (hK : c.K = X.K := by rfl) (hs : ∀ x, foldedSetIterable iter X.env x = pure x := by intro _; rfl) :
    PS X (.Assign [.Name y py] (.ListComp elt [⟨tg, iter, ifs, 0⟩] scope pos) spos) (rdS c (mSetO i (mLcO it g t e (own.map (·.2))))) := PSw (ps_setLc hc hN hy hyl hsw hi ok hg ht he hs) fun D σ H h => by
    obtain ⟨F, Hk, bp, ρ, S, h⟩ := rd_setO hb h
    rw [← hK]
    exact rd_lc hgs hbs ⟨F, Hk, bp, ρ, S, h⟩
end
theorem only_rs {K : PySem.W.Frag} {H : Hp} {a : Addr} {ns : List Int} (h : SqL K H a (ns.map V.int)) : RS K (fun _ => none) H H [] ([V.ref a].map some) ([MV.scr ns].map some) :=
  RS.args (Ex.refl _) (fun _ _ z => nomatch z) (fun _ _ z => nomatch z) (RVs.cons.mpr ⟨_, [], rfl, RV.scr.mpr ⟨a, rfl, h⟩, RVs.nil.mpr rfl⟩)
theorem walk_law {l : PySem.W.OpenLaw} {k : Nat} {q : Program} {loose : List Str} {XP : (Str → Option Value) → Heap → Prop} {YP : World → Heap → Prop} {d : DefRec} {K : Params → PySem.W.Frag} {x : Str} {f : MF}
    (hn : l.most = some 63) (hdf : d.params.defaults = []) (hr : Room k callerA) (hY : ∀ (w : World) (h : Heap), YP w h → (K w.params).In h)
    (hf : ∀ ns : List Int, ns.length ≤ 63 → ∃ bs, f [.scr ns] = .ok (.bl true, bs))
    (F : ∀ (w : World) (mg : Str → Option Value) (fa : Addr) (h : Heap), (K w.params).In h → h.Ns mainGlobals mg → mg d.name = some (.ref fa) →
      ∃ fd : FuncData, (∀ (s : Shared) (u : Value), BindsTo s fd ⟨[u], []⟩ [(x, u)]) ∧
        ∀ base : Heap, (K w.params).In base → base.Ns mainGlobals mg → FnOk l.prog w (K w.params) mg base (L2N.CX l.prog w) k fa fd [x] (spF (K w.params) mg 1 [] f)) :
    PySem.W.WalkO q loose XP YP l.row.toRowW d [] (fun f vs => PySem.call f vs) := by
  refine L2.walk_of (x := x) (K := K) (CX := fun w => L2N.CX l.prog w) (sp := fun w vs H Q E => ∃ (a : Addr) (ns : List Int), vs = [.ref a] ∧ ns.length ≤ 63 ∧ SqL (K w.params) H a (ns.map V.int) ∧ ∀ H', Q (.bl true) H') hn (by rw [sizeLine_eq]; decide) hdf hr hY (fun w mg fa h KX G hmg => ?_) (fun w H a ns hl _ hS => ⟨a, ns, rfl, hl, hS, fun _ => rfl⟩) ?_
  · obtain ⟨fd, hb, hF⟩ := F w mg fa h KX G hmg
    refine ⟨fd, hb, fun base h1 h2 => (hF base h1 h2).imp ?_⟩
    rintro vs H Q E ⟨a, ns, rfl, hl, hS, q⟩
    obtain ⟨bs, e⟩ := hf ns hl
    refine ⟨rfl, fun _ => none, H, [], [.scr ns], only_rs hS, rfl, ?_⟩
    rw [e]
    intro Hk' H' w x S'
    have bl : bs.length = 0 := by have := S'.len; simpa using this.symm
    have be : bs = [] := List.eq_nil_of_length_eq_zero bl
    subst be
    obtain ⟨v, ev, rv⟩ := S'.get (i := 0) (x := .bl true) rfl rfl
    cases ev
    rw [RV.bl.mp rv]
    exact q _
  · rintro w H s e s' ⟨_, _, _, _, _, _, _, _, _, _, _, _, f⟩
    exact f
structure Fd (P : Program) (w : World) (K : PySem.W.Frag) (mg : Str → Option Value) (base : Heap) (x : Str) (k : Nat) (ps : List Str) (bs : List Nat) (f : MF) : Prop where
  ex : ∃ (a : Addr) (fd : FuncData), FnOk P w K mg base (L2N.CX P w) k a fd ps (spF K mg ps.length bs f) ∧ mg x = some (.ref a) ∧ PySem.W.keepIn K (.ref a) = true ∧ Binds K fd ps []
structure Bn (mg : Str → Option Value) : Prop where
  len : mg "len" = none
  range : mg "range" = none
  abs : mg "abs" = none
  max : mg "max" = none
  min : mg "min" = none
  int : mg "int" = none
  str : mg "str" = none
  tuple : mg "tuple" = none
  list : mg "list" = none
  all : mg "all" = none
  any : mg "any" = none
  isinstance : mg "isinstance" = none
  divmod : mg "divmod" = none
  sum : mg "sum" = none
  zip : mg "zip" = none
  enumerate : mg "enumerate" = none
  reversed : mg "reversed" = none
  sorted : mg "sorted" = none
  dict : mg "dict" = none
  set : mg "set" = none
  bool : mg "bool" = none
section
variable {X : Cx} {c : Ct} {k : Nat} {ps : List Str} {x : Str} {p pos : Pos} {e : Expr} {es : List Expr} {f : MF} {a : MA} {j : Nat}
theorem mf_call (G : Fd X.prog X.w X.K X.mg X.base x k ps [] f) (hr : Room j X.A) (hj : k ≤ j) (tk : L2N.Takes X c.W) (ha : PA X (e :: es) (rdA c a)) (hn : Lng a ps.length) (hg : Gl X x := by rfl) (hK : c.K = X.K := by rfl) (hM : c.mg = X.mg := by rfl) (hdb : (x == ("__debug__" : Str)) = false := by decide)
    (he : starEach (e :: es) X.env = (false, eval e X.env) :: starEach es X.env := by rfl) (hpl : (backTo pos (starEach es X.env)).any (·.1) = false := by rfl) : PE X (.Call (.Name x p) (e :: es) [] pos) (rdO c (mCall f a)) := by
  obtain ⟨fa, fd, F, hm, hk, hb⟩ := G.ex
  exact mo_call F (hr.mono hj) hm hk hb tk ha hn hg hK hM hdb he hpl
theorem mf_call0 (G : Fd X.prog X.w X.K X.mg X.base x k ps [] f) (hr : Room j X.A) (hj : k ≤ j) (ha : PA X (e :: es) (rdA c a)) (hn : Lng a ps.length) (hg : Gl X x := by rfl) (hK : c.K = X.K := by rfl) (hM : c.mg = X.mg := by rfl) (hdb : (x == ("__debug__" : Str)) = false := by decide)
    (he : starEach (e :: es) X.env = (false, eval e X.env) :: starEach es X.env := by rfl) (hpl : (backTo pos (starEach es X.env)).any (·.1) = false := by rfl) : PE X (.Call (.Name x p) (e :: es) [] pos) (rdO c (mCall0 f a)) := by
  obtain ⟨fa, fd, F, hm, hk, hb⟩ := G.ex
  exact mo_call0 F (hr.mono hj) hm hk hb ha hn hg hK hM hdb he hpl
end
end Tm
set_option Elab.async false
set_option linter.all false
set_option maxRecDepth 100000
set_option maxHeartbeats 2000000
namespace Tm
open PySem L2
open Evl (Ex ex_rd ex_l ex_t)
def Cst (K : PySem.W.Frag) (mg : Str → Option Value) (x : Str) (v : MV) : Prop := ∃ w u, mg x = some u ∧ RelV w u ∧ ∀ H, RV K H v w
section
variable {X : Cx} {c : Ct} {x : Str} {pos : Pos}
theorem mf_con {v : MV} (h : Cst X.K X.mg x v) (hg : Gl X x := by rfl) (hK : c.K = X.K := by rfl) (hd : (x == ("__debug__" : Str)) = false := by decide) : PE X (.Name x pos) (rdE c (mC v)) := by
  obtain ⟨w, u, hm, rv, r⟩ := h
  exact me_glob hm rv (by rw [hK]; exact r) hg hd
end
theorem cst_int {K : PySem.W.Frag} {mg : Str → Option Value} {x : Str} {i : Int} {t : Tok} (h : mg x = some (.int i t)) : Cst K mg x (.int i) := ⟨.int i, _, h, ⟨t, rfl⟩, fun _ => RV.int.mpr rfl⟩
def flatIs : MV → Value → Bool
  | .int i, .int j _ => i == j
  | .str i, .str j _ => i == j
  | .non, .none => true
  | .bl a, .bool b => a == b
  | _, _ => false
def flatsIs : List MV → List Value → Bool
  | [], [] => true
  | x :: xs, v :: vs => flatIs x v && flatsIs xs vs
  | _, _ => false
theorem flat_is {K : PySem.W.Frag} {H : Hp} {x : MV} {v : Value} (h : flatIs x v = true) : ∃ w, RelV w v ∧ RV K H x w := by
  unfold flatIs at h
  split at h
  · rw [beq_iff_eq.mp h]; exact ⟨.int _, ⟨_, rfl⟩, RV.int.mpr rfl⟩
  · rw [beq_iff_eq.mp h]; exact ⟨.str _, ⟨_, rfl⟩, RV.str.mpr rfl⟩
  · exact ⟨.non, rfl, RV.non.mpr rfl⟩
  · rw [beq_iff_eq.mp h]; exact ⟨.bl _, rfl, RV.bl.mpr rfl⟩
  · cases h
theorem flats_is {K : PySem.W.Frag} {H : Hp} : ∀ {xs : List MV} {vs : List Value}, flatsIs xs vs = true → ∃ ws, Vals ws vs ∧ RVs K H xs ws
  | [], [], _ => ⟨[], .nil, RVs.nil.mpr rfl⟩
  | x :: xs, v :: vs, h => by
    unfold flatsIs at h
    rw [Bool.and_eq_true] at h
    obtain ⟨w, r1, r2⟩ := flat_is (K := K) (H := H) h.1
    obtain ⟨ws, r3, r4⟩ := flats_is (K := K) (H := H) h.2
    exact ⟨w :: ws, .cons r1 r3, RVs.cons.mpr ⟨w, ws, rfl, r2, r4⟩⟩
  | [], _ :: _, h => by cases h
  | _ :: _, [], h => by cases h
theorem flats_rv {K : PySem.W.Frag} {H H' : Hp} : ∀ {xs : List MV} {ws : List V} {vs : List Value}, flatsIs xs vs = true → RVs K H xs ws → RVs K H' xs ws
  | [], _, _, _, r => RVs.nil.mpr (RVs.nil.mp r)
  | x :: xs, ws, [], h, r => by cases h
  | x :: xs, ws, v :: vs, h, r => by
    unfold flatsIs at h
    rw [Bool.and_eq_true] at h
    obtain ⟨w, us, rfl, r1, r2⟩ := RVs.cons.mp r
    have f : flatM x = true := by
      have := h.1
      unfold flatIs at this
      split at this <;> first | rfl | cases this
    exact RVs.cons.mpr ⟨w, us, rfl, flat_rv f r1, flats_rv h.2 r2⟩
theorem cst_tup {K : PySem.W.Frag} {mg : Str → Option Value} {x : Str} {a : Addr} {dd : Option Addr} {its : Array Value} {n : Nat} {sl : Array (Option Value)} {xs : List MV} (h : mg x = some (.ref a)) (l : K.lookup a = some ⟨.type "tuple", dd, .seq its n, sl⟩) (e : flatsIs xs its.toList = true) (z : its.size ≤ 1000) : Cst K mg x (.tup xs) := by
  obtain ⟨ws, r1, r2⟩ := flats_is (K := K) (H := fun _ => none) e
  exact ⟨.ref a, _, h, rfl, fun H => RV.tup.mpr ⟨a, ws, rfl, .inr ⟨_, its, n, l, rfl, rfl, Nat.le_trans z (by rw [sizeLine_eq]; decide), r1⟩, flats_rv e r2⟩⟩
end Tm
set_option Elab.async false
set_option linter.all false
set_option maxRecDepth 100000
set_option maxHeartbeats 2000000
namespace Tm
open PySem L2
open Evl (Ex ex_rd ex_l ex_t)
theorem blkOk_at {N N' : List Str} {sc sc' bs : Scope} {own : List (Str × Nat)} (hN : N = N') (hs : sc = sc') (h : blkC N' sc' bs own = true) : BlkOk N sc bs own := by
  subst hN hs
  exact blkOk_by h
def mfOff : MF := fun _ => .stuck
def mRec (n : Nat) (bs : List Nat) (m : MF → MS) : Nat → MF
  | 0 => mfOff
  | k + 1 => mFn n bs (m (mRec n bs m k))
section
variable {P : Program} {w : World} {K : PySem.W.Frag} {mg : Str → Option Value} {base : Heap}
theorem spF_off {np : Nat} {bs : List Nat} {vs : List V} {H : Hp} {Q : VK} {E : XK} (h : spF K mg np bs mfOff vs H Q E) : False := by
  obtain ⟨_, _, _, _, _, _, _, h⟩ := h
  exact h
theorem fn_off {k : Nat} {f : Addr} {fd : FuncData} {ps : List Str} {np : Nat} {bs : List Nat} : FnOk P w K mg base (L2N.CX P w) k f fd ps (spF K mg np bs mfOff) :=
  ⟨fun _ _ _ _ h => (spF_off h).elim, fun _ _ _ _ _ _ _ _ _ _ _ _ _ h => (spF_off h).elim⟩
end
end Tm
set_option Elab.async false
set_option linter.all false
set_option maxRecDepth 100000
set_option maxHeartbeats 2000000
namespace HT
open PySem PySem.Spec PyProof.Rows
section
variable {prog : Program} {w : World} {A : Around} {E : Value → Shared → Prop} {s : Shared}
theorem fm_congr {α β : Type} {f g : α → Option β} : ∀ l : List α, (∀ x ∈ l, f x = g x) → l.filterMap f = l.filterMap g
  | [], _ => rfl
  | x :: l, h => by
    rw [List.filterMap_cons, List.filterMap_cons, h x (List.mem_cons_self ..), fm_congr l fun y hy => h y (List.mem_cons_of_mem _ hy)]
theorem rev_pick (xs : Array Value) : ((List.range xs.size).filterMap fun (m : Nat) => xs[(((xs.size : Int) - 1) + (m : Int) * (-1)).toNat]?).toArray = xs.toList.reverse.toArray := by
  have e : ((List.range xs.size).filterMap fun (m : Nat) => xs[(((xs.size : Int) - 1) + (m : Int) * (-1)).toNat]?) = ((List.range xs.size).map fun k => xs.size - 1 - k).filterMap (xs[·]?) := by
    rw [List.filterMap_map]
    refine fm_congr _ fun k hk => ?_
    have := List.mem_range.mp hk
    have e2 : (((xs.size : Int) - 1) + (k : Int) * (-1)).toNat = xs.size - 1 - k := by omega
    rw [e2]
    rfl
  rw [e, PySem.W.krv_range, List.filterMap_reverse, PySem.W.krv_all]
theorem sliceApplied_rev {sl : Addr} {vs : Value} {n : Nat} {Q : Int × Int × Nat → Shared → Prop} (hs : s.heap.IsSliceOf sl .none .none vs) (ps : IsPart vs (some (-1)))
    (h : Q ((n : Int) - 1, -1, n) s) : wpAny (model prog w) A (Builtin.Slice.sliceApplied (.ref sl) (pure (n : Int))) Q E s := by
  obtain ⟨os, hos, hcs, hds⟩ := id hs
  unfold Builtin.Slice.sliceApplied Builtin.Slice.sliceFields
  refine wpAny_bind (wpAny_bind (wpAny_field hos hds (x := .none) rfl (wpAny_bind (wpAny_field hos hds (x := .none) rfl (wpAny_bind (wpAny_field hos hds (x := vs) rfl (wpAny_pure ?_)))))))
  refine wpAny_bind (slicePart_ ps ?_)
  show wpAny _ _ (if ((-1 : Int) == 0) = true then _ else _) _ _ s
  rw [if_neg (by decide)]
  refine wpAny_bind (slicePart_none (wpAny_bind (slicePart_none (wpAny_bind (wpAny_pure ?_)))))
  show wpAny _ _ (match Builtin.Slice.sliceAdjust none none (-1) (n : Int) with | (lo, hi) => pure (lo, (-1 : Int), Builtin.Slice.slicePlaces lo hi (-1))) _ _ s
  have e : Builtin.Slice.sliceAdjust none none (-1) (n : Int) = ((n : Int) - 1, -1) := by
    simp [Builtin.Slice.sliceAdjust]
  rw [e]
  have e2 : Builtin.Slice.slicePlaces ((n : Int) - 1) (-1) (-1) = n := by
    unfold Builtin.Slice.slicePlaces
    simp
    omega
  show wpAny _ _ (pure ((n : Int) - 1, (-1 : Int), Builtin.Slice.slicePlaces ((n : Int) - 1) (-1) (-1))) _ _ s
  rw [e2]
  exact wpAny_pure h
theorem getItem_tuple_rev {t sl : Addr} {items : Array Value} {vs : Value} {Q : Value → Shared → Prop} (ht : IsTup s.heap t items) (hs : s.heap.IsSliceOf sl .none .none vs) (ps : IsPart vs (some (-1)))
    (h : Q (.ref s.heap.objs.size) { s with heap := s.heap.push { cls := .type "tuple", data := .seq items.toList.reverse.toArray } })
    (hsz : items.size ≤ sizeLine) : wpAny (model prog w) A (getItem (.ref t) (.ref sl)) Q E s := by
  have htake : sizeOk (.seq items.toList.reverse.toArray) := by
    show items.toList.reverse.toArray.size ≤ sizeLine
    rw [List.size_toArray, List.length_reverse, Array.length_toList]
    exact hsz
  obtain ⟨os, hos, hcs, hds⟩ := id hs
  have hTs : s.TypeIs (.ref sl) "slice" := ⟨os, hos, hcs⟩
  unfold getItem
  try with_reducible refine wpAny_holding ?_
  first | refine wpAny_bind (wpAny_pure ?_) | skip
  refine wpAny_bind (wpAny_sequenceKey ht.typeIs (by decide) ?_)
  refine wpAny_bind (wpAny_callSpecial?_slot (name := Str.ofString "__getitem__") ht.typeIs PyProof.Rows.slot_tuple_getitem
    (wpAny_call_entry PyProof.Rows.slot_tuple_getitem ht.typeIs entry_tuple_getitem ?_ (args_tuple_getitem _ _)))
  show wpAny _ _ (Builtin.Tuple.tupleItemsOf (.ref t) >>= _) _ _ s
  refine wpAny_bind (tupleItemsOf_ ht ?_)
  refine wpAny_bind (wpAny_typeOf hTs ?_)
  rw [if_pos (by decide)]
  refine wpAny_bind (sliceApplied_rev hs ps ?_)
  have hno : ¬ ((((items.size : Int) - 1) == 0 && (-1 : Int) == 1 && items.size == items.size) = true) := by simp
  show wpAny _ _ (if (((items.size : Int) - 1) == 0 && (-1 : Int) == 1 && items.size == items.size) = true then _ else _) _ _ s
  rw [if_neg hno, rev_pick]
  first
    | exact wpAny_bind (m := Builtin.Tuple.tupleExact _) (wpAny_newObj_type (wpAny_pure ⟨_, rfl, wpAny_pure h⟩) htake)
    | exact wpAny_bind (m := Builtin.Tuple.tupleExact _) (wpAny_newObj_type (wpAny_bind (wpAny_pure (wpAny_pure ⟨_, rfl, wpAny_pure h⟩))) htake)
    | exact wpAny_bind (wpAny_bind (m := Builtin.Tuple.tupleExact _) (wpAny_newObj_type (wpAny_pure (wpAny_pure ⟨_, rfl, wpAny_pure h⟩)) htake))
    | exact wpAny_bind (wpAny_bind (m := Builtin.Tuple.tupleExact _) (wpAny_newObj_type (wpAny_pure ⟨_, rfl, wpAny_pure h⟩) htake))
end
end HT
namespace Tm
open PySem L2 PySem.Spec PyProof.Rows
open Evl (Ex ex_rd ex_l ex_t)
def tRevT (K : PySem.W.Frag) (te : TE) : TE := fun σ H Q => te σ H fun x H1 => ∃ a xs, x = .ref a ∧ ((SqL K H1 a xs ∧ ∀ p, H1 p = none → Q (.ref p) (upd H1 p (.lst xs.reverse))) ∨ (SqT K H1 a xs ∧ ∀ p, H1 p = none → Q (.ref p) (upd H1 p (.tup xs.reverse))))
theorem pe_revT {X : Cx} {e : Expr} {te : TE} {k : Nat} {p1 p2 p3 pos : Pos} (he : PE X e te) : PE X (.Subscript e (.Slice none none (some (.UnaryOp .USub (.Constant (.int 1) k p1) p2)) p3) pos) (tRevT X.K te) := by
  refine ⟨fun pins s σ H Q I h => ?_⟩
  refine Subscript_ (thn (he.run pins s σ H _ I h) fun v s1 ⟨x, H1, I1, r1, q1⟩ => ?_)
  obtain ⟨a, xs, ex, hx⟩ := q1
  subst ex
  cases r1
  have hst : PO X (some (.UnaryOp .USub (.Constant (.int 1) k p1) p2)) (tPart (tUn (rU fun i => .int (-i)) (tC (.int 1)))) := po_some (pe_un un_neg pe_int)
  refine wpAny_Slice (thn (po_none.run pins s1 σ H1 (fun o H2 => o = none ∧ H2 = H1) I1 ⟨rfl, rfl⟩) fun vl s2 ⟨l, H2, I2, pl, el, e2⟩ => ?_)
  subst el e2
  refine thn (po_none.run pins s2 σ H2 (fun o H3 => o = none ∧ H3 = H2) I2 ⟨rfl, rfl⟩) fun vu s3 ⟨u, H3, I3, pu, eu, e3⟩ => ?_
  subst eu e3
  refine thn (hst.run pins s3 σ H3 (fun o H4 => o = some (-1) ∧ H4 = H3) I3 ⟨1, rfl, -1, rfl, rfl, rfl⟩) fun vs s4 ⟨o, H4, I4, ps, eo, e4⟩ => ?_
  subst eo e4
  cases pl
  cases pu
  have I5 : Inv X pins σ H4 { s4 with heap := s4.heap.push { cls := .type "slice", data := .fields #[.none, .none, vs] } } := I4.kept (t' := s4.toks) fun b ob q => Heap.get?_push_of_some _ q
  show wpAny (model X.prog X.w) X.A (subscriptTail e (.Slice none none (some (.UnaryOp .USub (.Constant (.int 1) k p1) p2)) p3) (.ref a) (.ref s4.heap.objs.size)) (EP X pins σ Q) X.xe { s4 with heap := s4.heap.push { cls := .type "slice", data := .fields #[.none, .none, vs] } }
  rcases hx with ⟨hx, q⟩ | ⟨hx, q⟩
  · obtain ⟨its, r, ht, hz⟩ := I5.list hx
    have hlen := r.length
    refine tail_any (ops := [.ref a, .ref s4.heap.objs.size]) ht.isList.typeIs (PySem.slot_list_getitem.lookup) ?_ (by with_unfolding_all rfl)
    refine wpAny_getItem_list_slice ht.isList (Heap.IsSliceOf.new _ _ _ vs) .none .none ps (by decide) ?_ (by rw [List.size_toArray]; omega)
    rw [PySem.W.krv_pick]
    refine ⟨.ref _, _, I5.laid (t' := s4.toks) (o := .lst xs.reverse) (fun b ob q => Heap.get?_push_of_some _ q) (Nat.le_refl _) ?_, rfl, q _ (I5.hok.fresh (Nat.le_refl _))⟩
    exact ⟨by rw [List.length_reverse]; exact hz, _, 0, r.reverse, Heap.get?_push_size _ rfl⟩
  · obtain ⟨its, r, ht, hz⟩ := I5.tuple hx
    have hlen := r.length
    refine tail_any (ops := [.ref a, .ref s4.heap.objs.size]) ht.typeIs (PyProof.Rows.slot_tuple_getitem.lookup) ?_ (by with_unfolding_all rfl)
    refine HT.getItem_tuple_rev ht (Heap.IsSliceOf.new _ _ _ vs) ps ?_ (by rw [List.size_toArray]; omega)
    refine ⟨.ref _, _, I5.laid (t' := s4.toks) (o := .tup xs.reverse) (fun b ob q => Heap.get?_push_of_some _ q) (Nat.le_refl _) ?_, rfl, q _ (I5.hok.fresh (Nat.le_refl _))⟩
    exact ⟨by rw [List.length_reverse]; exact hz, _, r.reverse, IsTup.new _ _⟩
section
variable {X : Cx} {c : Ct}
def fRevA : MV → Option MV
  | .lst xs => some (.lst xs.reverse)
  | .tup xs => some (.tup xs.reverse)
  | _ => none
def mRevA (a : ME) : ME := mUn fRevA a
theorem me_revA {e : Expr} {a : ME} {k : Nat} {p1 p2 p3 pos : Pos} (h : PE X e (rdE c a)) (hK : c.K = X.K := by rfl) : PE X (.Subscript e (.Slice none none (some (.UnaryOp .USub (.Constant (.int 1) k p1) p2)) p3) pos) (rdE c (mRevA a)) :=
  PEw (pe_revT h) fun σ H Q q => by
    obtain ⟨F, Hk, bp, ρ, S, q⟩ := q
    refine rdw (bE postE S q) fun v H1 ⟨Hk1, x, ρ1, x1, S1, r1, h1⟩ => ?_
    cases x with
    | lst xs =>
      obtain ⟨p, vs, rfl, g1, s1⟩ := RV.lst.mp r1
      refine ⟨p, vs, rfl, .inl ⟨SqL.of (S1.1.ex _ _ g1), fun l hl => h1 _ _ _ (Ex.new (S1.1.ex.back hl)) (S1.1.new hl) (RV.lst.mpr ⟨l, _, rfl, upd_same, (s1.reverse).mono (Ex.new (S1.1.ex.back hl))⟩)⟩⟩
    | tup xs =>
      obtain ⟨p, vs, rfl, g1, s1⟩ := RV.tup.mp r1
      refine ⟨p, vs, rfl, .inr ⟨by rw [← hK]; exact ex_t S1.1.ex g1, fun l hl => h1 _ _ _ (Ex.new (S1.1.ex.back hl)) (S1.1.new hl) (RV.tup.mpr ⟨l, _, rfl, SqT.of upd_same, (s1.reverse).mono (Ex.new (S1.1.ex.back hl))⟩)⟩⟩
    | _ => exact h1.elim
end
end Tm
set_option Elab.async false
set_option linter.all false
set_option maxRecDepth 100000
set_option maxHeartbeats 2000000
namespace Tm
open PySem L2 PySem.Spec PyProof.Rows
open Evl (Ex ex_rd ex_l ex_t)
structure Bas (K : PySem.W.Frag) (mg : Str → Option Value) (y : Str) : Prop where
  ex : ∃ CL : Addr, mg y = some (.ref CL) ∧ PySem.W.readsIn K CL (.type "type") = true ∧ PySem.W.specialIn K (.ref CL) "__getattribute__" = some (some (.builtin "type.__getattribute__")) ∧ PySem.W.findCls K (.ref CL) (.type "type") "__init__" = some (.val (.builtin "ValueError.__init__"))
section
variable {X : Cx} {y : Str} {e : Expr} {es : List Expr} {ta : TA} {p1 p2 pos : Pos}
theorem pe_linit {pl : Sem Bool} (hg : Gl X y) (B : Bas X.K X.mg y) (ha : PA X (e :: es) ta)
    (hc : eval (.Call (.Attribute (.Name y p1) "__init__" p2) (e :: es) [] pos) X.env = (do
      let ov ← eval (.Name y p1) X.env
      standAt p2.atName
      let (f, first) ← holding [ov] (getMethod ov "__init__" pl)
      callWith pos f first (backTo pos (starEach (e :: es) X.env)) (backToKw pos (keywordEach [] X.env))) := by rfl)
    (hdb : (y == ("__debug__" : Str)) = false := by decide) (he : starEach (e :: es) X.env = (false, eval e X.env) :: starEach es X.env := by rfl) (hpl : (backTo pos (starEach es X.env)).any (·.1) = false := by rfl) :
    PE X (.Call (.Attribute (.Name y p1) "__init__" p2) (e :: es) [] pos) (tVeI X.K ta) := by
  obtain ⟨CL, hm, hr, hga, hf⟩ := B.ex
  refine ⟨fun pins s σ H Q I h => ?_⟩
  refine PySem.W.methodCall_KW (ld_glob I hg hm ?_ hdb) hc
  refine PySem.W.method_cls I.kIn hga (PySem.W.cls_value I.kIn hr hf (by decide +kernel) ?_)
  show wpAny _ _ (callWith pos (Value.builtin "ValueError.__init__") [] (backTo pos (starEach (e :: es) X.env)) []) _ _ _
  refine PyProof.Rows.callWith_method1 (thn (ha.run pos pins _ σ H _ (I.tok _) h) fun us s1 ⟨vs, H1, I1, r1, a, C, ws, ev, hl, T, ea, q⟩ => ?_) he hpl
  subst ev
  cases r1 with
  | @cons _ u0 _ ur ra rw' =>
    obtain rfl : u0 = Value.ref a := ra
    have hlen : ur.length ≤ sizeLine := by
      rw [← Paired.length rw', sizeLine_eq]
      omega
    exact oinit_ok T I1 ea hlen fun s' J => ⟨.non, H1, J, rfl, q⟩
end
structure OwX (K : PySem.W.Frag) (mg : Str → Option Value) (x : Str) (C fI : Addr) : Prop where
  T : OexC K C
  m : mg x = some (.ref C)
  iC : PySem.W.findIn K (.ref C) "__init__" = some (some (.ref fI))
  tI : PySem.W.typeIn K (.ref fI) = some (.type "function")
def spI1 (K : PySem.W.Frag) (f : Str) : Sp := fun vs H Q _ => ∃ (a C : Addr) (v : V), vs = [.ref a, v] ∧ OexC K C ∧ PySem.W.findIn K (.ref C) f = some none ∧ H a = some (exo a C none) ∧
  ∀ d, H d = none → d ≠ a → Q .non (upd (upd H d (exd d [(f, v)])) a (exo a C (some d)))
def spI2 (K : PySem.W.Frag) (f g : Str) : Sp := fun vs H Q _ => ∃ (a C : Addr) (v w : V), vs = [.ref a, v, w] ∧ OexC K C ∧ PySem.W.findIn K (.ref C) f = some none ∧ PySem.W.findIn K (.ref C) g = some none ∧ H a = some (exo a C none) ∧
  ∀ d, H d = none → d ≠ a → Q .non (upd (upd (upd H d (exd d [(f, v)])) a (exo a C (some d))) d (exd d [(g, w), (f, v)]))
section
variable {P : Program} {w : World} {K : PySem.W.Frag} {mg : Str → Option Value} {base : Heap}
theorem init2 {x qual y f g p r t : Str} {st : Stmt} {a : Addr} {fd : FuncData} {j : Nat} {p1 p2 p3 p4 p5 p6 q1 q2 q3 q4 q5 q6 q7 q8 : Pos} (F : Fun K x qual st a fd) (S : FnScope ["self", p, r] ["self", p, r] (defScope st)) (B : Bas K mg y)
    (hb : defBody st = [.Expr (.Call (.Attribute (.Name y p1) "__init__" p2) [.Name "self" p3, .Constant (.str t) j p4] [] p5) p6, .Assign [.Attribute (.Name "self" q1) f q2] (.Name p q3) q4, .Assign [.Attribute (.Name "self" q5) g q6] (.Name r q7) q8])
    (hy : ∀ (L : Addr) (cd : Value), (envOfC qual (defScope st) L a cd).kindOf y = some NameKind.globalImplicit) (hs : (defScope st).names.lookup ("self" : Str) = some .local) (hp : (defScope st).names.lookup p = some .local) (hr0 : (defScope st).names.lookup r = some .local)
    (hc : ∀ env : PySem.Env, ∃ pl : Sem Bool, eval (.Call (.Attribute (.Name y p1) "__init__" p2) [.Name "self" p3, .Constant (.str t) j p4] [] p5) env = (do
      let ov ← eval (.Name y p1) env
      standAt p2.atName
      let (f, first) ← holding [ov] (getMethod ov "__init__" pl)
      callWith p5 f first (backTo p5 (starEach [.Name "self" p3, .Constant (.str t) j p4] env)) (backToKw p5 (keywordEach [] env))))
    (hy1 : (y == ("__debug__" : Str)) = false) (hp1 : (p == ("__debug__" : Str)) = false) (hp2 : (p == ("__classdict__" : Str)) = false) (hr1 : (r == ("__debug__" : Str)) = false) (hr2 : (r == ("__classdict__" : Str)) = false) :
    FnOk P w K mg base (L2N.CX P w) 2 a fd ["self", p, r] (spI2 K f g) := by
  refine okXN F S (fun vs H Q E h => ?_) (fun cdv A outer s H vs Q E hr h => ?_)
  · obtain ⟨_, _, _, _, rfl, _⟩ := h
    rfl
  obtain ⟨b, C, v, u, rfl, T, hf, hg, hH, hq⟩ := h
  have nd := S.nd
  have hself : PE (cxOf (L2N.CX P w) P w K mg base ["self", p, r] qual (defScope st) a cdv A outer s H E) (.Name "self" p3) (tVar 0) := pe_var (i := 0) rfl (.inl hs)
  have hself2 : PE (cxOf (L2N.CX P w) P w K mg base ["self", p, r] qual (defScope st) a cdv A outer s H E) (.Name "self" q1) (tVar 0) := pe_var (i := 0) rfl (.inl hs)
  have hpar : PE (cxOf (L2N.CX P w) P w K mg base ["self", p, r] qual (defScope st) a cdv A outer s H E) (.Name p q3) (tVar 1) := pe_var (i := 1) rfl (.inl hp) hp1 hp2
  have hself3 : PE (cxOf (L2N.CX P w) P w K mg base ["self", p, r] qual (defScope st) a cdv A outer s H E) (.Name "self" q5) (tVar 0) := pe_var (i := 0) rfl (.inl hs)
  have hpar2 : PE (cxOf (L2N.CX P w) P w K mg base ["self", p, r] qual (defScope st) a cdv A outer s H E) (.Name r q7) (tVar 2) := pe_var (i := 2) rfl (.inl hr0) hr1 hr2
  obtain ⟨pl, hc⟩ := hc (cxOf (L2N.CX P w) P w K mg base ["self", p, r] qual (defScope st) a cdv A outer s H E).env
  have h1 := pe_linit (pl := pl) (e := .Name "self" p3) (es := [.Constant (.str t) j p4]) (pos := p5) (p1 := p1) (p2 := p2) (X := cxOf (L2N.CX P w) P w K mg base ["self", p, r] qual (defScope st) a cdv A outer s H E) (y := y) (hy _ _) B (pa_cons hself (pa_cons pe_str pa_nil)) (hc := hc) (hdb := hy1)
  refine ⟨_, by rw [hb]; exact pss_cons (ps_expr h1) (pss_cons (ps_ost hself2 hpar) (pss_cons (ps_ost hself3 hpar2) pss_nil)), ?_⟩
  refine ⟨.ref b, rfl, b, C, [.str t], rfl, by simp, T, hH, v, rfl, .ref b, rfl, b, C, rfl, T, hf, .inl ⟨hH, fun dx h1 h2 => ⟨u, rfl, .ref b, rfl, b, C, rfl, T, hg, .inr ⟨dx, [(f, v)], upd_same, ?_, by simp, hq dx h1 h2⟩⟩⟩⟩
  rw [upd_ne h2, upd_same]
end
section
variable {X : Cx} {e : Expr} {es : List Expr} {ta : TA} {p pos : Pos}
theorem pmk_oexN {CX : CXT} {x : Str} {C fI : Addr} {k : Nat} {fd : FuncData} {ps : List Str} {sp : Sp} {ds : List Value} {dvs : List V} (T : OexC X.K C) (iC : PySem.W.findIn X.K (.ref C) "__init__" = some (some (.ref fI))) (tI : PySem.W.typeIn X.K (.ref fI) = some (.type "function"))
    (F1 : FnOk X.prog X.w X.K X.mg X.base CX k fI fd ps sp) (hr : Room (k + 1) X.A) (hb : L2.Binds X.K fd ps ds) (hd : Vals dvs ds) (hx : Passes CX X (fun _ _ _ => False)) (hg : Gl X x) (hm : X.mg x = some (.ref C)) (ha : PA X (e :: es) ta)
    (hdb : (x == ("__debug__" : Str)) = false := by decide) (he : starEach (e :: es) X.env = (false, eval e X.env) :: starEach es X.env := by rfl) (hpl : (backTo pos (starEach es X.env)).any (·.1) = false := by rfl) :
    L2N.PMk X (.Call (.Name x p) (e :: es) [] pos) (tMkO C sp dvs ta) := fun pins s σ H Q I h => by
  obtain ⟨_, _, _, _, bm, _, _, _, _, _, _, _, _, _, _, look, hbm⟩ := T.cls
  refine wpAny_Call_Name_kw (ld_glob I hg hm ?_ hdb)
  refine PySem.W.callWith_K (h₀ := X.base) I.ok.mod.kin T.kC (thn (ha.run pos pins s σ H _ I h) fun us s1 q0 => ⟨q0.choose_spec.choose_spec.1.kIn, ?_⟩) he hpl
  obtain ⟨vs, G, J, r, hz, q⟩ := q0
  show wpAny _ _ (call (.ref C) us) _ _ _
  obtain ⟨hp, gs, dr, tk, os⟩ := s1
  obtain ⟨n, hn⟩ : ∃ n, hp.objs.size = n := ⟨_, rfl⟩
  have le1 : hp.objs.size ≤ n + 1 := by omega
  have sp1 := q (n + 1) (J.hok.fresh le1)
  have keep : ∀ b o, hp.get? b = some o → ((hp.push (PySem.W.kdv_tup us)).push (PySem.HandSPX.excO C n)).get? b = some o := fun b o z => Heap.get?_push_of_some _ (Heap.get?_push_of_some _ z)
  have there : ((hp.push (PySem.W.kdv_tup us)).push (PySem.HandSPX.excO C n)).get? (n + 1) = some (PySem.HandSPX.excO C n) := by subst hn; heap_get
  have J2 : Inv X pins σ (upd G (n + 1) (exo (n + 1) C none)) ⟨(hp.push (PySem.W.kdv_tup us)).push (PySem.HandSPX.excO C n), gs, dr, tk, os⟩ :=
    J.laid (t' := tk) (a := n + 1) (o := exo (n + 1) C none) (h' := (hp.push (PySem.W.kdv_tup us)).push (PySem.HandSPX.excO C n)) keep le1 (exo_ok there)
  have r2 : Vals (V.ref (n + 1) :: (vs ++ dvs)) (Value.ref (n + 1) :: (us ++ ds)) := .cons rfl (r.append hd)
  have len2 : (Value.ref (n + 1) :: us ++ ds).length = ps.length := (F1.len _ _ _ _ sp1 ▸ r2.length).symm
  have small : us.length ≤ sizeLine := by
    have := Paired.length r
    rw [sizeLine_eq]; omega
  subst hn
  refine wpAny_call (PySem.HandSPX.call_own F.excBase_ValueError (fun Y => PySem.HandSPX.refsVE_contains Y bm hbm) (J.kIn _ _ look) (PySem.W.looks_findIn J.kIn iC) (fun self => PySem.W.bind_fn J.kIn self tI) small (codeAny_mono
    (F1.run _ X.stack _ _ ⟨Value.ref (hp.objs.size + 1) :: us, []⟩ (Value.ref (hp.objs.size + 1) :: (us ++ ds)) _ _ (fun _ _ _ => False) (hr.make C us []) (J2.env0.make C us []) (hb _ (Value.ref (hp.objs.size + 1) :: us) J2.kIn len2) r2 sp1) fun z s' hq => ?_))
  match z, hq with
  | .error er, hq => exact hx pins σ _ _ er s' J2 hq
  | .ok (.ret u), hq =>
    obtain ⟨v, G2, o2, b2, un2, ok2, rv, rfl, d, fs, ea, ed, hd1, w⟩ := hq
    obtain ⟨h2, g2, d2, t2, _⟩ := s'
    obtain ⟨t0, B, JB, kB, gB, at2, na⟩ := mk_end0 (d2 := d2) (t2 := t2) J le1 keep un2 ok2 o2 b2 ea ed hd1
    exact ⟨rv, ⟨_, _, _, ⟨B, g2, d2, t2, _⟩, _, .ref C, some d, rfl, JB, kB, gB, at2, ⟨rfl, rfl, fun vs hv => by cases hv; rfl⟩, rfl, rfl, na, rfl, b2, raises_own T.exC T.tyC, w⟩⟩
  | .ok .next, hq => exact hq.elim
  | .ok .brk, hq => exact hq.elim
  | .ok .cont, hq => exact hq.elim
end
section
variable {X : Cx} {c : Ct} {x f g : Str} {C fI : Addr} {k : Nat} {fd : FuncData} {ps : List Str} {W : WX}
theorem never {W : WX} (tk : L2N.Takes X W) : Passes (L2N.CX X.prog X.w) X (fun _ _ _ => False) := L2N.passes_call (E := fun _ _ _ => False) tk fun _ _ _ _ z => z.elim
def tMk2 (C : Addr) (f g : Str) (ta : TA) : L2.St → Hp → XK → Prop := fun σ H Q => ta σ H fun vs H1 => ∃ v w, vs = [v, w] ∧ ∀ d, H1 d = none → Q (.ref C) (some d) (upd H1 d (.xd [(g, w), (f, v)]))
theorem made_heap2 {H1 : Hp} {a d : Addr} {o u z y : HO} (ha : H1 a = none) (hd : d ≠ a) : upd (del (upd (upd (upd (upd H1 a o) d u) a z) d y) a) d = upd H1 d := by
  funext r b
  by_cases e1 : b = d
  · subst e1; rw [upd_same, upd_same]
  · rw [upd_ne e1, upd_ne e1]
    by_cases e2 : b = a
    · subst e2; rw [del_same, ha]
    · rw [del_ne e2, upd_ne e1, upd_ne e2, upd_ne e1, upd_ne e2]
theorem pmk2 {e : Expr} {es : List Expr} {ta : TA} {p pos : Pos} (O : OwX X.K X.mg x C fI) (hf : PySem.W.findIn X.K (.ref C) f = some none) (hfg : PySem.W.findIn X.K (.ref C) g = some none) (F1 : FnOk X.prog X.w X.K X.mg X.base (L2N.CX X.prog X.w) k fI fd ps (spI2 X.K f g)) (hr : Room (k + 1) X.A) (hb : L2.Binds X.K fd ps []) (tk : L2N.Takes X W) (hg : Gl X x) (ha : PA X (e :: es) ta)
    (hm : ∀ σ H Q Q', ta σ H Q → (∀ vs H1, Q vs H1 → Q' vs H1) → ta σ H Q')
    (hdb : (x == ("__debug__" : Str)) = false := by decide) (he : starEach (e :: es) X.env = (false, eval e X.env) :: starEach es X.env := by rfl) (hpl : (backTo pos (starEach es X.env)).any (·.1) = false := by rfl) :
    L2N.PMk X (.Call (.Name x p) (e :: es) [] pos) (tMk2 C f g ta) := by
  have z := pmk_oexN (p := p) (ds := []) (dvs := []) O.T O.iC O.tI F1 hr hb .nil (never tk) hg O.m ha hdb he hpl
  intro pins s σ H Q I h
  refine z pins s σ H Q I (hm σ H _ _ h fun vs H1 ⟨v, w, ev, q⟩ => ?_)
  subst ev
  refine ⟨by simp, fun a ha => ⟨a, C, v, w, rfl, O.T, hf, hfg, upd_same, fun d hd hne => ⟨rfl, d, [(g, w), (f, v)], ?_, upd_same, ?_, ?_⟩⟩⟩
  · rw [upd_ne (Ne.symm hne), upd_same]
  · rw [upd_ne hne] at hd; exact hd
  · rw [made_heap2 ha hne]
    exact q d (by rw [upd_ne hne] at hd; exact hd)
end
end Tm
set_option Elab.async false
set_option linter.all false
set_option maxRecDepth 100000
set_option maxHeartbeats 2000000
namespace Tm
open PySem L2 PySem.Spec PyProof.Rows
open Evl (Ex ex_rd ex_l ex_t)
def NoX (H H' : Hp) : Prop := ∀ a o, H a = some o → (∀ fs, o ≠ .xd fs) → H' a = some o
theorem NoX.rdl {H H' : Hp} (e : NoX H H') {a : Addr} {xs : List V} (h : Rd H a (.lst xs)) : Rd H' a (.lst xs) := by
  rcases h with h | ⟨o, h⟩
  · exact Or.inl (e a _ h (fun _ z => nomatch z))
  · exact Or.inr ⟨o, e a _ h (fun _ z => nomatch z)⟩
theorem NoX.rdt {H H' : Hp} (e : NoX H H') {a : Addr} {xs : List V} (h : Rd H a (.tup xs)) : Rd H' a (.tup xs) := by
  rcases h with h | ⟨o, h⟩
  · exact Or.inl (e a _ h (fun _ z => nomatch z))
  · exact Or.inr ⟨o, e a _ h (fun _ z => nomatch z)⟩
mutual
theorem RV.sub {K : PySem.W.Frag} {H H' : Hp} (e : NoX H H') : ∀ (x : MV) (v : V), RV K H x v → RV K H' x v
  | .non, v, h => by unfold RV at h ⊢; exact h
  | .bl b, v, h => by unfold RV at h ⊢; exact h
  | .int i, v, h => by unfold RV at h ⊢; exact h
  | .str x, v, h => by unfold RV at h ⊢; exact h
  | .tup xs, v, h => by
    unfold RV at h ⊢
    obtain ⟨a, vs, e1, e2, e3⟩ := h
    exact ⟨a, vs, e1, e2.imp e.rdt id, RVs.sub e xs vs e3⟩
  | .lst xs, v, h => by
    unfold RV at h ⊢
    obtain ⟨a, vs, e1, e2, e3⟩ := h
    exact ⟨a, vs, e1, e _ _ e2 (fun _ z => nomatch z), RVs.sub e xs vs e3⟩
  | .own xs, v, h => by unfold RV at h; exact h.elim
  | .raw w, v, h => by unfold RV at h ⊢; exact h
  | .scr ns, v, h => by
    unfold RV at h ⊢
    obtain ⟨a, e1, e2⟩ := h
    exact ⟨a, e1, e2.imp e.rdl id⟩
  | .fnc x, v, h => by unfold RV at h ⊢; exact h
  | .obj C fs, v, h => by unfold RV at h; exact h.elim
  | .dct ks xs, v, h => by
    unfold RV at h ⊢
    obtain ⟨a, vs, e1, e2, e3, e4⟩ := h
    exact ⟨a, vs, e1, e _ _ e2 (fun _ z => nomatch z), e3, RVs.sub e xs vs e4⟩
  | .dow ks xs, v, h => by unfold RV at h; exact h.elim
  | .dot ks xs, v, h => by unfold RV at h; exact h.elim
theorem RVs.sub {K : PySem.W.Frag} {H H' : Hp} (e : NoX H H') : ∀ (xs : List MV) (vs : List V), RVs K H xs vs → RVs K H' xs vs
  | [], vs, h => by unfold RVs at h ⊢; exact h
  | x :: xs, vs, h => by
    unfold RVs at h ⊢
    obtain ⟨v, r, e1, e2, e3⟩ := h
    exact ⟨v, r, e1, RV.sub e x v e2, RVs.sub e xs r e3⟩
end
theorem OF.sub {K : PySem.W.Frag} {Hk Hk' H : Hp} {x : MV} {v : V} {A : List Addr} (e : NoX Hk Hk') (h : OF K Hk H x v A) : OF K Hk' H x v A := by
  cases x with
  | own xs =>
    unfold OF at h ⊢
    obtain ⟨p, vs, e1, e2, e3, e4⟩ := h
    exact ⟨p, vs, e1, e2, e3, RVs.sub e _ _ e4⟩
  | dow ks xs =>
    unfold OF at h ⊢
    obtain ⟨p, vs, e1, e2, e3, e5, e4⟩ := h
    exact ⟨p, vs, e1, e2, e3, e5, RVs.sub e _ _ e4⟩
  | dot ks xs =>
    unfold OF at h ⊢
    obtain ⟨p, vs, e1, e2, e3, e5, e4⟩ := h
    exact ⟨p, vs, e1, e2, e3, e5, RVs.sub e _ _ e4⟩
  | obj C fs => exact (show False by unfold OF at h; unfold RV at h; exact h.2).elim
  | _ =>
    unfold OF at h ⊢
    exact ⟨h.1, RV.sub e _ _ h.2⟩
theorem OFs.sub {K : PySem.W.Frag} {Hk Hk' H : Hp} (e : NoX Hk Hk') : ∀ {fs : List (Str × MV)} {vs : List (Str × V)} {A : List Addr}, OFs K Hk H fs vs A → OFs K Hk' H fs vs A
  | [], _, _, h => h
  | (n, x) :: fs, vs, A, h => by
    obtain ⟨v, r, B, C, e1, e2, h1, h2⟩ := h
    exact ⟨v, r, B, C, e1, e2, h1.sub e, OFs.sub e h2⟩
theorem OV.sub {K : PySem.W.Frag} {Hk Hk' H : Hp} {x : MV} {v : V} {A : List Addr} (e : NoX Hk Hk') (h : OV K Hk H x v A) : OV K Hk' H x v A := by
  cases x with
  | obj C fs =>
    unfold OV at h ⊢
    obtain ⟨p, CA, dx, vfs, B, e1, e2, e0, e3, e4, e5⟩ := h
    exact ⟨p, CA, dx, vfs, B, e1, e2, e0, e3, OFs.sub e e4, e5⟩
  | _ => (unfold OV at h ⊢; exact OF.sub e h)
section
variable {K : PySem.W.Frag} {F Hk H : Hp} {bp : List (Nat × Addr)} {σ : L2.St} {ρ : Env}
theorem SL.hole {ow : Nat → List Addr} (S : SL K F Hk H ow σ ρ) {i : Nat} (y : Option V) : SL K F Hk H (put ow i []) (σ.set i y) (ρ.set i none) := by
  refine ⟨fun j x h => ?_, fun j a h => ?_, fun j h => ?_, fun j k a hjk h => ?_⟩
  · rcases set_get h with ⟨_, e⟩ | ⟨ne, e⟩
    · cases e
    · obtain ⟨v, e1, o⟩ := S.s j x e
      refine ⟨v, by rw [List.getElem?_set_ne (Ne.symm ne)]; exact e1, ?_⟩
      unfold put
      rw [if_neg ne]; exact o
  · unfold put at h
    split at h
    · cases h
    · exact S.f j a h
  · unfold put at h
    split at h
    · exact absurd rfl h
    · rw [List.length_set]; exact S.w j h
  · unfold put at h ⊢
    split at h
    · cases h
    · split
      · simp
      · exact S.d j k a hjk h
theorem RS.hold (S : RS K F Hk H bp σ ρ) {i : Nat} {a : Addr} (hi : i < ρ.length) (hb : ∀ q ∈ bp, q.1 ≠ i) : RS K F Hk H ((i, a) :: bp) (σ.set i (some (.ref a))) (ρ.set i none) := by
  obtain ⟨ow, s⟩ := S.ow
  refine ⟨by rw [List.length_set, List.length_set, S.len], S.ex, S.fr, S.frk, ⟨_, s.hole _⟩, fun q hq => ?_⟩
  rcases List.mem_cons.mp hq with rfl | hq
  · exact List.getElem?_set_self (by rw [S.len]; exact hi)
  · rw [List.getElem?_set_ne (Ne.symm (hb q hq))]; exact S.bor q hq
theorem RS.unhold (S : RS K F Hk H ((i, a) :: bp) σ ρ) (hb : ∀ q ∈ bp, q.1 ≠ i) : RS K F Hk H bp (σ.set i none) (ρ.set i none) := by
  obtain ⟨ow, s⟩ := S.ow
  refine ⟨by rw [List.length_set, List.length_set, S.len], S.ex, S.fr, S.frk, ⟨_, s.hole _⟩, fun q hq => ?_⟩
  rw [List.getElem?_set_ne (Ne.symm (hb q hq))]; exact S.bor q (List.mem_cons_of_mem _ hq)
theorem RS.less (S : RS K F Hk H (p :: bp) σ ρ) : RS K F Hk H bp σ ρ := ⟨S.len, S.ex, S.fr, S.frk, S.ow, fun q hq => S.bor q (List.mem_cons_of_mem _ hq)⟩
theorem RS.aside (S : RS K F Hk H bp σ ρ) {dx : Addr} {fs : List (Str × V)} (hd : Hk dx = some (.xd fs)) : RS K (upd F dx (.xd fs)) (del Hk dx) H bp σ ρ := by
  have nx : NoX Hk (del Hk dx) := fun a o h n => by
    unfold del
    rw [if_neg (fun z => by subst z; rw [hd] at h; cases h; exact n _ rfl)]
    exact h
  have le : ∀ a o, del Hk dx a = some o → Hk a = some o := fun a o h => by
    unfold del at h
    split at h
    · cases h
    · exact h
  obtain ⟨ow, s⟩ := S.ow
  refine ⟨S.len, fun a o h => S.ex a o (le a o h), fun a o h => ?_, fun a o h => ?_, ⟨ow, fun i x h => ?_, fun i a h => ?_, s.w, s.d⟩, S.bor⟩
  · by_cases e : a = dx
    · subst e; rw [upd_same] at h; cases h; exact S.ex _ _ hd
    · rw [upd_ne e] at h; exact S.fr a o h
  · by_cases e : a = dx
    · subst e; exact del_same
    · rw [upd_ne e] at h; rw [del_ne e]; exact S.frk a o h
  · obtain ⟨v, e1, o⟩ := s.s i x h
    exact ⟨v, e1, o.sub nx⟩
  · obtain ⟨h1, h2, h3⟩ := s.f i a h
    have ne : a ≠ dx := fun z => by subst z; rw [hd] at h1; cases h1
    exact ⟨by rw [del_ne ne]; exact h1, by rw [upd_ne ne]; exact h2, h3⟩
theorem RS.back_in {dx : Addr} {fs : List (Str × V)} (S : RS K (upd F dx (.xd fs)) Hk H bp σ ρ) (hF : F dx = none) : RS K F (upd Hk dx (.xd fs)) H bp σ ρ := by
  have hk : Hk dx = none := S.frk dx _ upd_same
  have ex := Ex.new (o := HO.xd fs) hk
  obtain ⟨ow, s⟩ := S.ow
  refine ⟨S.len, fun a o h => ?_, fun a o h => ?_, fun a o h => ?_, ⟨ow, fun i x h => ?_, fun i a h => ?_, s.w, s.d⟩, S.bor⟩
  · by_cases e : a = dx
    · subst e; rw [upd_same] at h; cases h; exact S.fr _ _ upd_same
    · rw [upd_ne e] at h; exact S.ex a o h
  · have ne : a ≠ dx := fun z => by subst z; rw [hF] at h; cases h
    exact S.fr a o (by rw [upd_ne ne]; exact h)
  · have ne : a ≠ dx := fun z => by subst z; rw [hF] at h; cases h
    rw [upd_ne ne]
    exact S.frk a o (by rw [upd_ne ne]; exact h)
  · obtain ⟨v, e1, o⟩ := s.s i x h
    exact ⟨v, e1, o.move ex fun _ _ _ z => z⟩
  · obtain ⟨h1, h2, h3⟩ := s.f i a h
    have ne : a ≠ dx := fun z => by subst z; rw [upd_same] at h2; cases h2
    exact ⟨by rw [upd_ne ne]; exact h1, by rw [upd_ne ne] at h2; exact h2, h3⟩
end
theorem RV.flat {K K' : PySem.W.Frag} {H H' : Hp} {x : MV} {v : V} (f : flatM x = true) (h : RV K H x v) : RV K' H' x v := by
  cases x <;> first | (simp [flatM] at f; done) | (unfold RV at h ⊢; exact h)
theorem XFs.flat {K K' : PySem.W.Frag} {H H' : Hp} : ∀ {xs : List (Str × MV)} {vs : List (Str × V)}, xs.all (fun p => flatM p.2) = true → XFs K H xs vs → XFs K' H' xs vs
  | [], _, _, h => h
  | (n, x) :: xs, vs, f, h => by
    obtain ⟨v, r, e1, e2, e3⟩ := h
    simp only [List.all_cons, Bool.and_eq_true] at f
    exact ⟨v, r, e1, e2.flat f.1, XFs.flat f.2 e3⟩
structure ExT (K : PySem.W.Frag) (mg : Str → Option Value) (y : Str) (x : Str) (b : Bool) : Prop where
  ex : ∃ C D, mg x = some (.ref C) ∧ mg y = some (.ref D) ∧ PySem.W.exmOne K (.ref C) (.ref D) = some b
def mTry (i : Nat) (tab : List (Str × Bool)) (mb : MS) (mh : MX → MS) : MS := fun ρ => match mb ρ with
  | .ok r => .ok r
  | .stuck => .stuck
  | .exc e ρ1 => match tab.lookup e.cls with
    | some true => if decide (i < ρ1.length) && e.fs.all (fun p => flatM p.2) then (match mh e (ρ1.set i none) with
      | .ok (.rt v, ρ2) => .ok (.rt v, ρ2)
      | .ok (f, ρ2) => .ok (f, ρ2.set i none)
      | _ => .stuck) else .stuck
    | some false => .exc e ρ1
    | none => .stuck
def XIn (F : Hp) (e : MX) (d : Option Addr) : Prop := (e.fs = [] ∧ d = none) ∨ ∃ dx vfs, d = some dx ∧ F dx = some (.xd vfs) ∧ ∀ K H, XFs K H e.fs vfs
def cH (c : Ct) (i : Nat) (a : Addr) (e : MX) (d : Option Addr) : Ct := ⟨c.K, c.mg, fun _ _ _ _ => False, i :: c.bs, fun F bp => (∃ bq, bp = (i, a) :: bq ∧ c.J F bq) ∧ XIn F e d, fun F F1 bp x h => by
  obtain ⟨⟨bq, e1, e2⟩, h2⟩ := h
  refine ⟨⟨bq, e1, c.Jm _ _ _ x e2⟩, ?_⟩
  rcases h2 with h2 | ⟨dx, vfs, q1, q2, q3⟩
  · exact .inl h2
  · exact .inr ⟨dx, vfs, q1, x _ _ q2, q3⟩⟩
section
variable {X : Cx} {c : Ct} {y n : Str} {i : Nat} {body suite : List Stmt} {b₀ : Stmt} {np pos pos' : Pos} {tab : List (Str × Bool)} {mb : MS} {mh : MX → MS}
theorem lookup_mem : ∀ {tab : List (Str × Bool)} {x : Str} {b : Bool}, tab.lookup x = some b → (x, b) ∈ tab
  | [], _, _, h => by simp at h
  | (z, k) :: tab, x, b, h => by
    rw [List.lookup_cons] at h
    by_cases e : x = z
    · subst e
      simp at h
      subst h
      exact List.mem_cons_self ..
    · have : (x == z) = false := by simpa using e
      rw [this] at h
      exact List.mem_cons_of_mem _ (lookup_mem h)
theorem ms_try (hs : X.stack = X.env :: X.outer) (hf : X.env.frame = some X.env.locals) (hN : X.N.Nodup) (hi : X.N[i]? = some n) (hln : X.env.kindOf n = some .local) (hg : Gl X y) (tk : L2N.Takes X c.W) (ht : ∀ p ∈ tab, ExT X.K X.mg y p.1 p.2) (hne : ∃ D, X.mg y = some (.ref D))
    (hb : ∀ (W : WX) (pn : List (Addr × Obj)) (xe : Value → Shared → Prop), L2N.Takes (X.tr pn xe) W → PassesOwn (model X.prog X.w) X.A X.env xe → PSs (X.tr pn xe) body (rdS ⟨c.K, c.mg, W, c.bs, c.J, c.Jm⟩ mb))
    (hsu : ∀ (a : Addr) (oe : Obj) (C : Addr) (d : Option Addr) (pn : List (Addr × Obj)) (e : MX), X.mg e.cls = some (.ref C) → (e.cls, true) ∈ tab → L2N.Zn (.ref C) d oe → (∃ vs, oe.data = .fields vs) → PSs (X.suite a ((a, oe) :: pn)) (b₀ :: suite) (rdS (cH c i a e d) (mh e)))
    (hbs : c.bs.contains i = false := by rfl) (hK : c.K = X.K := by rfl) (hmg : c.mg = X.mg := by rfl) (hdb : (y == ("__debug__" : Str)) = false := by decide) :
    PS X (.Try body [.ExceptHandler (some (.Name y np)) (some n) (b₀ :: suite) pos'] [] [] pos) (rdS c (mTry i tab mb mh)) := by
  obtain ⟨Dy, hDy⟩ := hne
  have z := L2N.ps_try_as (x := y) (c := .ref Dy) (np := np) (pos := pos) (pos' := pos') (tb := fun W => rdS ⟨c.K, c.mg, W, c.bs, c.J, c.Jm⟩ mb) (Wout := c.W)
    (ts := fun a cls d D σ H => ∃ e C, X.mg e.cls = some (.ref C) ∧ cls = .ref C ∧ (e.cls, true) ∈ tab ∧ rdS (cH c i a e d) (mh e) D σ H) hs hf hN hi hln ⟨hg, hdb, .inl hDy⟩ tk hb
    (fun a oe cls d pn hz hv => ⟨fun pins s σ H D I ⟨e, C, h1, h2, h3, h4⟩ => (hsu a oe C d pn e h1 h3 (by rw [← h2]; exact hz) hv).run pins s σ H D I h4⟩)
  refine PSw z fun D σ H h => ?_
  obtain ⟨F, Hk, bp, ρ, S, h⟩ := h
  refine ⟨F, Hk, bp, ρ, S, ?_⟩
  unfold mTry at h
  cases em : mb ρ with
  | stuck => rw [em] at h; exact h
  | ok r =>
    rw [em] at h
    obtain ⟨f, ρ'⟩ := r
    cases f <;> exact h
  | exc e ρ1 =>
    rw [em] at h
    intro Hk' H' σ' cls d x S1 er
    obtain ⟨C, g1, g2, g3⟩ := er
    subst g2
    have g1' : X.mg e.cls = some (.ref C) := by rw [← hmg]; exact g1
    cases el : tab.lookup e.cls with
    | none => simp only [el] at h; exact h.elim
    | some b =>
      obtain ⟨C', D', k1, k2, k3⟩ := (ht _ (lookup_mem el)).ex
      rw [g1'] at k1
      cases k1
      rw [hDy] at k2
      cases k2
      refine ⟨b, k3, fun hyes a ha => ?_, fun hno => ?_⟩
      · subst hyes
        simp only [el] at h
        split at h
        · rename_i hc
          simp only [Bool.and_eq_true, decide_eq_true_eq] at hc
          refine ⟨e, C, g1', rfl, lookup_mem el, ?_⟩
          have hbq : ∀ q ∈ bp, q.1 ≠ i := nb S.2.1 hbs
          -- the state of the clause
          have main : ∃ F2 Hk2, RS c.K F2 Hk2 H' ((i, a) :: bp) (σ'.set i (some (.ref a))) (ρ1.set i none) ∧ Ex F F2 ∧ XIn F2 e d ∧ ∀ Hk3 H3 bq σ3 ρ3, Ex Hk2 Hk3 → RS c.K F2 Hk3 H3 bq σ3 ρ3 → ∃ Hk4, Ex Hk' Hk4 ∧ RS c.K F Hk4 H3 bq σ3 ρ3 ∧ Ex Hk3 Hk4 := by
            rcases g3 with g3 | ⟨dx, vfs, q1, q2, q3⟩
            · exact ⟨F, Hk', S1.hold hc.1 hbq, Ex.refl _, .inl g3, fun Hk3 H3 bq σ3 ρ3 x3 S3 => ⟨Hk3, x3, S3, Ex.refl _⟩⟩
            · have fn : F dx = none := by
                cases e0 : F dx with
                | none => rfl
                | some o => have := S1.frk dx o e0; rw [q2] at this; cases this
              refine ⟨_, _, (S1.hold hc.1 hbq).aside q2, Ex.new fn, .inr ⟨dx, vfs, q1, upd_same, fun K H => q3.flat hc.2⟩, fun Hk3 H3 bq σ3 ρ3 x3 S3 => ⟨_, fun b o hb => ?_, S3.back_in fn, Ex.new (S3.frk dx _ upd_same)⟩⟩
              by_cases e0 : b = dx
              · subst e0; rw [q2] at hb; cases hb; exact upd_same
              · rw [upd_ne e0]
                exact x3 _ _ (by rw [del_ne e0]; exact hb)
          obtain ⟨F2, Hk2, S2, xF, xi, out⟩ := main
          refine ⟨F2, Hk2, (i, a) :: bp, _, ⟨S2, ?_, ⟨bp, rfl, c.Jm _ _ _ xF S.2.2⟩, xi⟩, ?_⟩
          · show i :: bp.map (·.1) = i :: c.bs
            rw [S.2.1]
          cases eh : mh e (ρ1.set i none) with
          | stuck => rw [eh] at h; exact h.elim
          | exc e2 ρ2 => rw [eh] at h; exact h.elim
          | ok r =>
            obtain ⟨f, ρ2⟩ := r
            rw [eh] at h
            cases f with
            | nx =>
              intro Hk3 H3 σ3 x3 S3
              obtain ⟨Hk4, x4, S4, _⟩ := out Hk3 H3 _ _ _ x3 S3
              exact h Hk4 H3 _ (x.trans x4) (S4.unhold hbq)
            | br =>
              intro Hk3 H3 σ3 x3 S3
              obtain ⟨Hk4, x4, S4, _⟩ := out Hk3 H3 _ _ _ x3 S3
              exact h Hk4 H3 _ (x.trans x4) (S4.unhold hbq)
            | ct =>
              intro Hk3 H3 σ3 x3 S3
              obtain ⟨Hk4, x4, S4, _⟩ := out Hk3 H3 _ _ _ x3 S3
              exact h Hk4 H3 _ (x.trans x4) (S4.unhold hbq)
            | rt v =>
              intro Hk3 H3 σ3 w x3 hq S3
              obtain ⟨Hk4, x4, S4, _⟩ := out Hk3 H3 _ _ _ x3 S3
              exact h Hk4 H3 _ w (x.trans x4) (fun q hq' => hq q (List.mem_cons_of_mem _ hq')) S4.less
        · exact h.elim
      · subst hno
        simp only [el] at h
        exact h Hk' H' σ' _ d x S1 ⟨C, g1, rfl, g3⟩
end
end Tm
set_option Elab.async false
set_option linter.all false
set_option maxRecDepth 100000
set_option maxHeartbeats 2000000
namespace Tm
open PySem L2 PySem.Spec PyProof.Rows
open Evl (Ex ex_rd ex_l ex_t)
def mRaise2 (x f g : Str) (a b : ME) : MS := fun ρ => (a ρ).bind fun y ρ1 => (b ρ1).bind fun z ρ2 => .exc ⟨x, [(g, z), (f, y)]⟩ ρ2
structure Cl0 (K : PySem.W.Frag) (mg : Str → Option Value) (x : Str) : Prop where
  ex : ∃ C, mg x = some (.ref C) ∧ PySem.W.excIn K C PySem.HandSPX.veTail "ValueError.__new__" = true ∧ PySem.W.keepIn K (.ref C) = true ∧ PySem.W.subIn K (.ref C) (.type "BaseException") = some true ∧ PySem.W.typeIn K (.ref C) = some (.type "type")
structure Cl1 (P : Program) (w : World) (K : PySem.W.Frag) (mg : Str → Option Value) (base : Heap) (x f : Str) : Prop where
  ex : ∃ C fI fd ps, OwX K mg x C fI ∧ PySem.W.findIn K (.ref C) f = some none ∧ FnOk P w K mg base (L2N.CX P w) 2 fI fd ps (spI1 K f) ∧ L2.Binds K fd ps []
structure Cl2 (P : Program) (w : World) (K : PySem.W.Frag) (mg : Str → Option Value) (base : Heap) (x f g : Str) : Prop where
  ex : ∃ C fI fd ps, OwX K mg x C fI ∧ PySem.W.findIn K (.ref C) f = some none ∧ PySem.W.findIn K (.ref C) g = some none ∧ FnOk P w K mg base (L2N.CX P w) 2 fI fd ps (spI2 K f g) ∧ L2.Binds K fd ps []
section
variable {X : Cx} {c : Ct} {x f g m : Str} {k j : Nat}
theorem ms_raise2 {e e2 : Expr} {a b : ME} {p p2 pos : Pos} (Z : Cl2 X.prog X.w X.K X.mg X.base x f g) (hc : X.calm = true) (hr : Room k X.A) (hk : 3 ≤ k) (tk : L2N.Takes X c.W) (hg : Gl X x) (he : PE X e (rdE c a)) (he2 : PE X e2 (rdE c b)) (hmg : c.mg = X.mg := by rfl)
    (hdb : (x == ("__debug__" : Str)) = false := by decide) (hst : starEach [e, e2] X.env = (false, eval e X.env) :: starEach [e2] X.env := by rfl) (hst2 : starEach [e2] X.env = (false, eval e2 X.env) :: starEach [] X.env := by rfl) (hpl : (backTo p2 (starEach [e2] X.env)).any (·.1) = false := by rfl) :
    PS X (.Raise (some (.Call (.Name x p) [e, e2] [] p2)) none pos) (rdS c (mRaise2 x f g a b)) := by
  obtain ⟨C, fI, fd, ps, O, h2, h22, h3, h4⟩ := Z.ex
  refine PSw (L2N.ps_raise hc tk (pmk2 (W := c.W) O h2 h22 h3 (hr.mono hk) h4 tk hg (ma_cons he (ma_cons he2 ma_nil hst2) hst) (fun σ H Q Q' q w => rdAw q w) hdb hst hpl)) fun D σ H ⟨F, Hk, bp, ρ, S, h⟩ => ?_
  have h : okS c F Hk bp D ((a ρ).bind fun y ρ1 => (b ρ1).bind fun z ρ2 => .exc ⟨x, [(g, z), (f, y)]⟩ ρ2) := h
  refine ⟨F, Hk, bp, ρ, S, ?_⟩
  show okA c F Hk bp σ _ ((a ρ).bind fun y ρ1 => ((b ρ1).bind fun z ρ2 => (mNil ρ2).bind fun xs ρ3 => .ok (z :: xs, ρ3)).bind fun xs ρ3 => .ok (y :: xs, ρ3))
  cases ea : a ρ with
  | stuck => rw [ea] at h; exact h
  | exc e ρ' => rw [ea] at h; exact fun Hk' H' cls d => h Hk' H' σ cls d
  | ok q =>
    obtain ⟨y, ρ1⟩ := q
    rw [ea] at h
    have h : okS c F Hk bp D ((b ρ1).bind fun z ρ2 => .exc ⟨x, [(g, z), (f, y)]⟩ ρ2) := h
    show okA c F Hk bp σ _ (((b ρ1).bind fun z ρ2 => (mNil ρ2).bind fun xs ρ3 => .ok (z :: xs, ρ3)).bind fun xs ρ3 => .ok (y :: xs, ρ3))
    cases eb : b ρ1 with
    | stuck => rw [eb] at h; exact h
    | exc e ρ' => rw [eb] at h; exact fun Hk' H' cls d => h Hk' H' σ cls d
    | ok q =>
      obtain ⟨z, ρ2⟩ := q
      rw [eb] at h
      intro Hk1 H1 vs x1 S1 r1
      obtain ⟨v, us, rfl, r2, r3⟩ := RVs.cons.mp r1
      obtain ⟨u, us, rfl, r4, r5⟩ := RVs.cons.mp r3
      cases RVs.nil.mp r5
      refine ⟨v, u, rfl, fun d hd => ?_⟩
      have xn := Ex.new (o := HO.xd [(g, u), (f, v)]) (S1.ex.back hd)
      exact h _ _ _ _ _ (x1.trans xn) (S1.new hd) ⟨C, by rw [hmg]; exact O.m, rfl, .inr ⟨d, _, rfl, upd_same, u, _, rfl, r4.mono xn, v, [], rfl, r2.mono xn, rfl⟩⟩
end
def mExF (e : MX) (f : Str) : ME := fun ρ => match e.fs.lookup f with
  | some x => .ok (x, ρ)
  | none => .stuck
theorem XFs.look {K : PySem.W.Frag} {H : Hp} {f : Str} {x : MV} : ∀ {xs : List (Str × MV)} {vs : List (Str × V)}, XFs K H xs vs → xs.lookup f = some x → ∃ v, vs.lookup f = some v ∧ RV K H x v
  | [], _, _, h => by simp at h
  | (n, y) :: xs, vs, r, h => by
    obtain ⟨v, rr, e1, e2, e3⟩ := r
    subst e1
    rw [List.lookup_cons] at h ⊢
    cases eq : f == n with
    | true => rw [eq] at h; cases h; exact ⟨v, rfl, e2⟩
    | false => rw [eq] at h; exact XFs.look e3 h
section
variable {X : Cx} {c : Ct} {a C : Addr} {oe : Obj} {d : Option Addr} {pn : List (Addr × Obj)} {e : MX} {i : Nat} {n f y : Str} {p p1 p2 pos : Pos}
theorem me_xf (T : XfC X.K C) (hno : PySem.W.findIn X.K (.ref C) f = some none) (hz : Zc (.ref C) d oe) (hf : ∃ vs, oe.data = .fields vs) (hN : X.N[i]? = some n) (hv : Vis X.env.scope n) (hK : c.K = X.K := by rfl)
    (hb : attributeBase (.Name n p) f X.env (eval (.Name n p) X.env) = eval (.Name n p) X.env := by rfl) (hd : (n == ("__debug__" : Str)) = false := by decide) (hcd : (n == ("__classdict__" : Str)) = false := by decide) :
    PE (X.suite a ((a, oe) :: pn)) (.Attribute (.Name n p) f pos) (rdE (cH c i a e d) (mExF e f)) := by
  refine PEw (pe_xf T hno hz hf (pe_var (i := i) hN hv hd hcd) hb) fun σ H Q ⟨F, Hk, bp, ρ, S, h⟩ => ?_
  obtain ⟨⟨bq, e1, e2⟩, xi⟩ := S.2.2
  refine ⟨.ref a, S.1.bor (i, a) (by rw [e1]; exact List.mem_cons_self ..), rfl, rfl, ?_⟩
  unfold mExF at h
  cases el : e.fs.lookup f with
  | none => rw [el] at h; exact h.elim
  | some x =>
    rw [el] at h
    rcases xi with ⟨z, _⟩ | ⟨dx, vfs, q1, q2, q3⟩
    · rw [z] at el; cases el
    · obtain ⟨v, g1, g2⟩ := (q3 (cH c i a e d).K Hk).look el
      exact ⟨dx, vfs, v, q1, S.1.fr _ _ q2, g1, h _ _ _ (Ex.refl _) S.1 g2⟩
end
theorem fa_nil {α : Type} {P : α → Prop} : ∀ p ∈ ([] : List α), P p := fun _ h => nomatch h
theorem fa_cons {α : Type} {P : α → Prop} {x : α} {l : List α} (h : P x) (t : ∀ p ∈ l, P p) : ∀ p ∈ x :: l, P p := fun p hp => by
  rcases List.mem_cons.mp hp with rfl | hp
  · exact h
  · exact t p hp
def xcB (K : PySem.W.Frag) (C : Addr) (fs : List Str) : Bool := xfB K C && decide (PySem.W.findIn K (.ref C) "__class__" = some (some (.builtin "object.__class__"))) && decide (PySem.W.specialIn K (.builtin "object.__class__") "__get__" = some (some (.builtin "getset_descriptor.__get__"))) && decide (PySem.W.takesIn K (.builtin "object.__class__") = some true) && decide (PySem.W.mroIn K C (.type "object") = some true) && fs.all (fun f => decide (PySem.W.findIn K (.ref C) f = some none))
structure XcF (K : PySem.W.Frag) (mg : Str → Option Value) (fs : List Str) (x : Str) : Prop where
  ex : ∃ C, mg x = some (.ref C) ∧ xcB K C fs = true
structure KiT (K : PySem.W.Frag) (mg : Str → Option Value) (y x : Str) (b : Bool) : Prop where
  ex : ∃ C D, mg x = some (.ref C) ∧ mg y = some (.ref D) ∧ PySem.W.kitOne K (.ref C) (.ref D) = some b
structure XcG (K : PySem.W.Frag) (C : Addr) (fs : List Str) : Prop where
  xf : XfC K C
  xc : ExcC K C
  no : ∀ f ∈ fs, PySem.W.findIn K (.ref C) f = some none
theorem xcB_ok {K : PySem.W.Frag} {C : Addr} {fs : List Str} (h : xcB K C fs = true) : XcG K C fs := by
  unfold xcB at h
  simp only [Bool.and_eq_true, decide_eq_true_eq, List.all_eq_true] at h
  obtain ⟨⟨⟨⟨⟨h1, h2⟩, h3⟩, h4⟩, h5⟩, h6⟩ := h
  have T := xfB_ok h1
  exact ⟨T, ⟨T.ga, T.gg, T.exC, T.hdC, h2, h3, h4, h5⟩, h6⟩
theorem xc_at {K : PySem.W.Frag} {mg : Str → Option Value} {fs ts : List Str} {tab : List (Str × Bool)} {x : Str} {C : Addr} (Xs : ∀ x ∈ ts, XcF K mg fs x) (ht : tab.all (fun p => !p.2 || ts.contains p.1) = true) (hC : mg x = some (.ref C)) (hT : (x, true) ∈ tab) : XcG K C fs := by
  have h := List.all_eq_true.mp ht _ hT
  simp at h
  obtain ⟨C', h1, h2⟩ := (Xs x h).ex
  rw [hC] at h1
  cases h1
  exact xcB_ok h2
section
variable {X : Cx} {c : Ct} {a C : Addr} {oe : Obj} {d : Option Addr} {pn : List (Addr × Obj)} {e : MX} {i : Nat} {n f y : Str} {p p1 p2 pos : Pos} {fs : List Str} {tab tab2 : List (Str × Bool)}
theorem mx_f (G : XcG X.K C fs) (hf : f ∈ fs) (hz : L2N.Zn (.ref C) d oe) (hv : ∃ vs, oe.data = .fields vs) (hN : X.N[i]? = some n) (hl : Vis X.env.scope n)
    (hb : attributeBase (.Name n p) f X.env (eval (.Name n p) X.env) = eval (.Name n p) X.env := by rfl) (hd : (n == ("__debug__" : Str)) = false := by decide) (hcd : (n == ("__classdict__" : Str)) = false := by decide) (hK : c.K = X.K := by rfl) :
    PE (X.suite a ((a, oe) :: pn)) (.Attribute (.Name n p) f pos) (rdE (cH c i a e d) (mExF e f)) := me_xf G.xf (G.no f hf) hz.zc hv hN hl hK hb hd hcd
end
def inCls (s : Stmt) (j : Nat) : Stmt := match s with
  | .ClassDef _ _ _ b _ _ _ _ _ _ _ => b.getD j (.Pass ⟨0, 0, 0, 0⟩)
  | _ => .Pass ⟨0, 0, 0, 0⟩
theorem owX_mk {K : PySem.W.Frag} {mg : Str → Option Value} {x : Str} {C fI : Addr} {nm q : Str} {N : Addr} {bs bm : List Value} {sn : List Str} {sub : List Value} {ab : Bool} {col : Option Bool} {dd : Option Addr} {k0 k1 k2 k3 k5 : Option Value}
    (m : mg x = some (.ref C)) (l : K.lookup C = some (excClassObj nm q C N bs bm true sn sub ab col dd k0 k1 k2 k3 k5 "ValueError.__new__")) (r : PySem.HandSPX.refsVE bm = true) (sa : PySem.W.findIn K (.ref C) "__setattr__" = some (some (.builtin "object.__setattr__")))
    (eC : PySem.W.subIn K (.ref C) (.type "BaseException") = some true) (tC : PySem.W.typeIn K (.ref C) = some (.type "type")) (kC : PySem.W.keepIn K (.ref C) = true) (iC : PySem.W.findIn K (.ref C) "__init__" = some (some (.ref fI))) (tI : PySem.W.typeIn K (.ref fI) = some (.type "function")) : OwX K mg x C fI :=
  ⟨⟨⟨nm, q, N, bs, bm, sn, sub, ab, col, dd, k0, k1, k2, k3, k5, l, r⟩, sa, eC, tC, kC⟩, m, iC, tI⟩
end Tm
set_option Elab.async false
set_option linter.all false
set_option maxRecDepth 100000
set_option maxHeartbeats 2000000
namespace Tm
open PySem L2
open Evl (Ex ex_rd ex_l ex_t)
def fAddL : MV → MV → Option (List MV)
  | .lst a, .lst b => if szOk (a.length + b.length) then some (a ++ b) else none
  | _, _ => none
def fMultL : MV → MV → Option (List MV)
  | .lst a, .int k => if decide (-(2 ^ 63) ≤ k) && decide (k < 2 ^ 63) && szOk (a.length * k.toNat) then some (List.replicate k.toNat a).flatten else none
  | _, _ => none
def mOpO (f : MV → MV → Option (List MV)) (a b : ME) : ME := fun ρ => (a ρ).bind fun x ρ1 => (b ρ1).bind fun y ρ2 => match f x y with
  | some zs => .ok (.own zs, ρ2)
  | none => .stuck
section
variable {X : Cx} {c : Ct} {a b : Expr} {ma mb : ME} {pos : Pos}
def OpN (K : PySem.W.Frag) (f : MV → MV → Option (List MV)) (r : R2) : Prop := ∀ (x y : MV) (zs : List MV) (v w : V) (Hk H : Hp) (Q : VK), f x y = some zs → Ex Hk H → RV K Hk x v → RV K Hk y w →
  (∀ p vs, H p = none → RVs K Hk zs vs → Q (.ref p) (upd H p (.lst vs))) → r v w H Q
theorem mo_op {op : Operator} {f : MV → MV → Option (List MV)} {r : R2} (hop : OpR X (binaryOp op) r) (o : OpN c.K f r) (ha : PE X a (rdE c ma)) (hb : PE X b (rdE c mb)) : PE X (.BinOp a op b pos) (rdO c (mOpO f ma mb)) :=
  PEw (pe_op hop ha hb) fun σ H Q h => by
    obtain ⟨F, Hk, bp, ρ, S, h⟩ := h
    refine rdw (bE postO S h) fun v H1 ⟨Hk1, x, ρ1, x1, S1, r1, h1⟩ => ?_
    refine rdw (bE postO S1 h1) fun w H2 ⟨Hk2, y, ρ2, x2, S2, r2, h2⟩ => ?_
    split at h2
    · rename_i zs e
      exact o x y zs v w Hk2 H2 Q e S2.1.ex (RV.mono x2 _ _ r1) r2 fun p vs hp rv => h2 _ _ _ (Ex.refl _) (S2.1.pushOwn hp rv)
    · exact h2.elim
theorem on_add {K : PySem.W.Frag} : OpN K fAddL (rAddM K) := by
  intro x y zs v w Hk H Q e ex r1 r2 q
  unfold fAddL at e
  split at e
  · split at e
    · rename_i a b h
      cases e
      obtain ⟨p1, vs, rfl, h1, s1⟩ := RV.lst.mp r1
      obtain ⟨p2, ws, rfl, h2, s2⟩ := RV.lst.mp r2
      refine .inr (.inr (.inr (.inl ⟨p1, p2, vs, ws, rfl, rfl, ex _ _ h1, ex _ _ h2, ?_, fun p hp => q p _ hp (s1.append s2)⟩)))
      rw [s1.length, s2.length]; exact szOk_iff.mp h
    · cases e
  · cases e
theorem on_mult {K : PySem.W.Frag} : OpN K fMultL (rMulM K) := by
  intro x y zs v w Hk H Q e ex r1 r2 q
  unfold fMultL at e
  split at e
  · rename_i a k
    split at e
    · rename_i h
      cases e
      simp only [Bool.and_eq_true, decide_eq_true_eq] at h
      obtain ⟨p1, vs, rfl, h1, s1⟩ := RV.lst.mp r1
      refine .inr (.inr (.inl ⟨p1, k, vs, rfl, RV.int.mp r2, ex _ _ h1, h.1.1, h.1.2, ?_, fun p hp => q p _ hp (RVs.rep s1 _)⟩))
      rw [s1.length]; exact szOk_iff.mp h.2
    · cases e
  · cases e
theorem mo_add (ha : PE X a (rdE c ma)) (hb : PE X b (rdE c mb)) (hK : c.K = X.K := by rfl) : PE X (.BinOp a .Add b pos) (rdO c (mOpO fAddL ma mb)) := mo_op op_addM (by rw [← hK]; exact on_add) ha hb
theorem mo_mult (ha : PE X a (rdE c ma)) (hb : PE X b (rdE c mb)) (hK : c.K = X.K := by rfl) : PE X (.BinOp a .Mult b pos) (rdO c (mOpO fMultL ma mb)) := mo_op op_mulM (by rw [← hK]; exact on_mult) ha hb
end
end Tm
set_option Elab.async false
set_option linter.all false
set_option maxRecDepth 100000
set_option maxHeartbeats 2000000
namespace Tm
open PySem L2
open Evl (Ex ex_rd ex_l ex_t)
section
variable {X : Cx} {c : Ct} {p pos apos cpos : Pos} {o e : Expr} {es : List Expr} {a : ME} {m : MA}
def mLx (f : List MV → List MV → Option MV) (a : ME) (b : MA) : ME := fun ρ => (a ρ).bind fun x ρ1 => match x with
  | .lst xs => (b ρ1).bind fun ys ρ2 => (match f xs ys with | some w => .ok (w, ρ2) | none => .stuck)
  | _ => .stuck
def LxS (K : PySem.W.Frag) (f : List MV → List MV → Option MV) (r : V → List V → Hp → VK → Prop) : Prop := ∀ (xs ys : List MV) (w : MV) (q : Addr) (vs us : List V) (Hk H : Hp) (Q : VK), f xs ys = some w → Ex Hk H → H q = some (.lst vs) → RVs K Hk xs vs → RVs K Hk ys us → (∀ u, RV K Hk w u → Q u H) → r (.ref q) us H Q
theorem rd_lx {f : List MV → List MV → Option MV} {r : V → List V → Hp → VK → Prop} (s : LxS c.K f r) {σ : St} {H : Hp} {Q : VK} (h : rdE c (mLx f a m) σ H Q) : tBM c.K "list" r (rdE c a) (rdA c m) σ H Q := by
  obtain ⟨F, Hk, bp, ρ, S, h⟩ := h
  refine rdw (bE postE S h) fun v H1 ⟨Hk1, x, ρ1, x1, S1, r1, h1⟩ => ?_
  cases x with
  | lst xs =>
    obtain ⟨q, vs, rfl, g1, g2⟩ := RV.lst.mp r1
    refine ⟨.inl ⟨rfl, _, SqL.of (S1.1.ex _ _ g1)⟩, ?_⟩
    refine rdAw (bA postE S1 h1) fun us H2 ⟨Hk2, ys, ρ2, x2, S2, r2, h2⟩ => ?_
    have h2 : okE c F Hk2 bp σ Q (match f xs ys with | some w => .ok (w, ρ2) | none => .stuck) := h2
    cases ef : f xs ys with
    | none => rw [ef] at h2; exact h2.elim
    | some w =>
      rw [ef] at h2
      exact s xs ys w q vs us Hk2 H2 Q ef S2.1.ex (S2.1.ex _ _ (x2 _ _ g1)) (g2.mono x2) r2 (fun u ru => h2 _ _ u (Ex.refl _) S2.1 ru)
  | _ => exact h1.elim
theorem me_lx {f : List MV → List MV → Option MV} {r : V → List V → Hp → VK → Prop} {id : String} {name : Str} (s : LxS c.K f r) (slot : Slot "list" name id) (hty : typeOf (.builtin id) = pure (.type "method_descriptor")) (hm : MtR X id r) (ho : PE X o (rdE c a)) (ha : PA X (e :: es) (rdA c m)) (hK : c.K = X.K := by rfl)
    (hbase : attributeBase o name X.env (eval o X.env) = eval o X.env := by rfl)
    (hfew : ((backTo cpos (starEach (e :: es) X.env)).all (fun x => !x.1) && (backToKw cpos (keywordEach [] X.env)).all (fun x => x.1.isSome)
      && decide ((e :: es).length + ([] : List Keyword).length + (if ([] : List Keyword).isEmpty then 0 else 1) < 30)) = true := by rfl)
    (hline : (apos.endLine == cpos.line) = true := by rfl) (hs : starEach (e :: es) X.env = (false, eval e X.env) :: starEach es X.env := by rfl) (hplain : (backTo cpos (starEach es X.env)).any (·.1) = false := by rfl) :
    PE X (.Call (.Attribute o name apos) (e :: es) [] cpos) (rdE c (mLx f a m)) :=
  PEw (pe_bm PySem.F.plainAttrs_list slot hty hm ho ha hbase hfew hline hs hplain) fun σ H Q h => by
    have := rd_lx s h
    rw [hK] at this
    exact this
end
def strsOf : List MV → Option (List Str)
  | [] => some []
  | .str z :: r => (match strsOf r with | some l => some (z :: l) | none => none)
  | _ :: _ => none
theorem strs_rv {K : PySem.W.Frag} {H : Hp} : ∀ {xs : List MV} {ss : List Str} {vs : List V}, strsOf xs = some ss → RVs K H xs vs → vs = ss.map V.str
  | [], ss, vs, h, r => by cases h; exact RVs.nil.mp r
  | .str z :: xs, ss, vs, h, r => by
    obtain ⟨v, us, rfl, r1, r2⟩ := RVs.cons.mp r
    unfold strsOf at h
    cases e : strsOf xs with
    | none => rw [e] at h; cases h
    | some l =>
      rw [e] at h
      cases h
      rw [RV.str.mp r1, strs_rv e r2]; rfl
  | .non :: _, _, _, h, _ => by cases h
  | .bl _ :: _, _, _, h, _ => by cases h
  | .int _ :: _, _, _, h, _ => by cases h
  | .tup _ :: _, _, _, h, _ => by cases h
  | .lst _ :: _, _, _, h, _ => by cases h
  | .own _ :: _, _, _, h, _ => by cases h
  | .raw _ :: _, _, _, h, _ => by cases h
  | .scr _ :: _, _, _, h, _ => by cases h
  | .fnc _ :: _, _, _, h, _ => by cases h
  | .obj _ _ :: _, _, _, h, _ => by cases h
  | .dct _ _ :: _, _, _, h, _ => by cases h
  | .dow _ _ :: _, _, _, h, _ => by cases h
  | .dot _ _ :: _, _, _, h, _ => by cases h
def lxIndex : List MV → List MV → Option MV
  | xs, [.str b] => (match strsOf xs with
    | some ss => (match ss.findIdx? (fun s => decide (s = b)) with | some j => some (.int (j : Nat)) | none => none)
    | none => none)
  | _, _ => none
theorem lx_index {K : PySem.W.Frag} : LxS K lxIndex (rIndex K) := by
  intro xs ys w q vs us Hk H Q e ex hq r1 r2 k
  unfold lxIndex at e
  split at e
  · rename_i b
    split at e
    · rename_i ss es
      split at e
      · rename_i j ej
        cases e
        obtain ⟨v, rfl, rv⟩ := rvs1 r2
        rw [RV.str.mp rv]
        have := strs_rv es r1
        subst this
        obtain ⟨hj, h1, h2⟩ := List.findIdx?_eq_some_iff_getElem.mp ej
        refine ⟨q, ss.map V.str, .str b, j, .str ss[j], rfl, rfl, SqL.of hq, rfl, ?_, by simp [hj], ?_, fun m z' hm hz => ?_, k _ (RV.int.mpr rfl)⟩
        · rw [List.all_map, List.all_eq_true]
          exact fun _ _ => rfl
        · have h1 := of_decide_eq_true h1
          rw [h1]
          simp [eqV]
        · have hlt : m < ss.length := by omega
          have : z' = .str ss[m] := by simpa [hlt] using hz.symm
          subst this
          have h3 := h2 m hm
          have h3 : ¬ ss[m] = b := by simpa using h3
          simp [eqV, h3]
      · cases e
    · cases e
  · cases e
def mWhileN : Nat → MT → MS → MS
  | 0, _, _ => fun _ => .stuck
  | n + 1, t, b => fun ρ => (t ρ).bind fun k ρ1 => if k then ((b ρ1).bind fun f ρ2 => match f with
    | .nx => mWhileN n t b ρ2
    | .ct => mWhileN n t b ρ2
    | .br => .ok (.nx, ρ2)
    | .rt v => .ok (.rt v, ρ2)) else .ok (.nx, ρ1)
section
variable {X : Cx} {c : Ct} {pos : Pos} {t : MT} {b : MS}
theorem okS.wl {F Hk : Hp} {bp : List (Nat × Addr)} {D : Ends} {n : Nat} {N : St → Hp → Prop} (hN : ∀ Hk' H' σ' ρ', Ex Hk Hk' → RS c.K F Hk' H' bp σ' ρ' → okS c F Hk' bp D (mWhileN n t b ρ') → N σ' H') {r : Res (Fl × Env)}
    (h : okS c F Hk bp D (r.bind fun f ρ2 => match f with | .nx => mWhileN n t b ρ2 | .ct => mWhileN n t b ρ2 | .br => .ok (.nx, ρ2) | .rt v => .ok (.rt v, ρ2))) : okS c F Hk bp { D with nx := N, ct := N, bk := D.nx } r := by
  cases r with
  | stuck => exact h
  | exc e ρ => exact h
  | ok q =>
    obtain ⟨f, ρ1⟩ := q
    cases f with
    | nx => exact fun Hk1 H1 σ1 x1 S1 => hN Hk1 H1 σ1 ρ1 x1 S1 (okS.mono x1 h)
    | ct => exact fun Hk1 H1 σ1 x1 S1 => hN Hk1 H1 σ1 ρ1 x1 S1 (okS.mono x1 h)
    | br => exact h
    | rt x => exact h
end
section
variable {X : Cx} {c : Ct} {k : Nat} {fa : Addr} {fd : FuncData} {ps : List Str} {x : Str} {p pos : Pos} {f : MF}
theorem mo_callZ (F : FnOk X.prog X.w X.K X.mg X.base (L2N.CX X.prog X.w) k fa fd ps (spF X.K X.mg 0 [] f)) (hr : Room k X.A) (hm : X.mg x = some (.ref fa)) (hk : PySem.W.keepIn X.K (.ref fa) = true) (hb : Binds X.K fd ps [])
    (hg : Gl X x := by rfl) (hK : c.K = X.K := by rfl) (hM : c.mg = X.mg := by rfl) (hdb : (x == ("__debug__" : Str)) = false := by decide) : PE X (.Call (.Name x p) [] [] pos) (rdO c (mCall0 f mNil)) :=
  PEw (pe_call0 F hr hg hm hk hb .nil passes0 hdb) fun σ H Q h => by
    have := rd_call0 (a := mNil) lng_nil h
    rw [hK, hM] at this
    obtain ⟨F', Hk, bp, ρ, S, q⟩ := this
    exact q _ _ _ (Ex.refl _) S.1 (RVs.nil.mpr rfl)
theorem mf_callZ {j : Nat} (G : Fd X.prog X.w X.K X.mg X.base x k [] [] f) (hr : Room j X.A) (hj : k ≤ j) (hg : Gl X x := by rfl) (hK : c.K = X.K := by rfl) (hM : c.mg = X.mg := by rfl) (hdb : (x == ("__debug__" : Str)) = false := by decide) : PE X (.Call (.Name x p) [] [] pos) (rdO c (mCall0 f mNil)) := by
  obtain ⟨fa, fd, F, hm, hk, hb⟩ := G.ex
  exact mo_callZ F (hr.mono hj) hm hk hb hg hK hM hdb
end
end Tm
set_option Elab.async false
set_option linter.all false
set_option maxRecDepth 100000
set_option maxHeartbeats 2000000
namespace Tm
open PySem L2
open Evl (Ex ex_rd ex_l ex_t)
section
variable {X : Cx} {c : Ct} {p p2 pos : Pos} {x : Str} {i : Nat}
def lenV (ρ : Env) (i : Nat) : Option MV := match ρ[i]? with
  | some (some (.own xs)) => some (.int xs.length)
  | some (some x) => bLen [x]
  | _ => none
def mLenV (i : Nat) : ME := fun ρ => match lenV ρ i with | some z => .ok (z, ρ) | none => .stuck
theorem bLen_per {x z : MV} (h : bLen [x] = some z) : x.per = true := by
  cases x <;> first | rfl | cases h
theorem me_lenV (hm : X.mg "len" = none) (hN : X.N[i]? = some x) (hv : Vis X.env.scope x) (hg : Gl X "len" := by rfl) (hK : c.K = X.K := by rfl) (hd : (x == ("__debug__" : Str)) = false := by decide) (hcd : (x == ("__classdict__" : Str)) = false := by decide)
    (he : starEach [Expr.Name x p] X.env = (false, eval (.Name x p) X.env) :: starEach [] X.env := by rfl) (hpl : (backTo pos (starEach [] X.env)).any (·.1) = false := by rfl) : PE X (.Call (.Name "len" p2) [.Name x p] [] pos) (rdE c (mLenV i)) :=
  PEw (pe_callB cr_lenM hg hm (by decide +kernel) (pa_cons (pe_var hN hv hd hcd) pa_nil he) (by decide) (by decide) he hpl) fun σ H Q h => by
    obtain ⟨F, Hk, bp, ρ, S, h⟩ := h
    unfold mLenV at h
    cases e : lenV ρ i with
    | none => rw [e] at h; exact h.elim
    | some z =>
      rw [e] at h
      unfold lenV at e
      split at e
      · rename_i xs hx
        cases e
        obtain ⟨q, vs, e1, e2, e3, e4, e5⟩ := S.1.getOwn hx
        refine ⟨_, e1, ?_⟩
        rw [← hK]
        exact .inl ⟨q, vs, rfl, .inl (SqL.of e2), by rw [e3.length]; exact h _ _ _ (Ex.refl _) S.1 (RV.int.mpr rfl)⟩
      · rename_i x n hx
        have px := bLen_per e
        obtain ⟨w, e1, r1⟩ := S.1.get hx px
        refine ⟨w, e1, ?_⟩
        rw [← hK]
        exact cs_len [x] z [w] Hk H Q e S.1.ex (RVs.cons.mpr ⟨w, [], rfl, r1, RVs.nil.mpr rfl⟩) (fun u ru => h _ _ u (Ex.refl _) S.1 ru) fun q ob hq ru => h _ _ _ (Ex.new (S.1.ex.back hq)) (S.1.new hq) ru
      · cases e
abbrev MP := Env → Res (Option Int × Env)
def slV (ρ : Env) (i : Nat) (l h : Option Int) : Option (List MV) := match ρ[i]? with
  | some (some (.own xs)) => some (cutM xs l h)
  | some (some (.lst xs)) => some (cutM xs l h)
  | _ => none
theorem wP {m : MP} {σ : St} {H : Hp} {Q Q' : Option Int → Hp → Prop} : rdP c m σ H Q → (∀ v H, Q v H → Q' v H) → rdP c m σ H Q' := fun ⟨F, Hk, bp, ρ, S, q⟩ w => ⟨F, Hk, bp, ρ, S, by
  cases e : m ρ with
  | ok a => rw [e] at q; exact fun Hk2 H2 x S => w _ _ (q Hk2 H2 x S)
  | exc e' ρ => rw [e] at q; exact q
  | stuck => rw [e] at q; exact q⟩
def mSlV (i : Nat) (l h : MP) : ME := fun ρ => if has ρ i then (l ρ).bind fun a ρ1 => (h ρ1).bind fun b ρ2 => match slV ρ2 i a b with | some zs => .ok (.lst zs, ρ2) | none => .stuck else .stuck
theorem slV_rs {F Hk H : Hp} {bp : List (Nat × Addr)} {σ : St} {ρ : Env} {a b : Option Int} {zs : List MV} {v : V} (S : At c F Hk H bp σ ρ) (e : slV ρ i a b = some zs) (ev : σ[i]? = some (some v)) :
    ∃ q vs, v = .ref q ∧ SqL c.K H q vs ∧ RVs c.K Hk zs (cutV vs a b) := by
  unfold slV at e
  split at e
  · rename_i xs hx
    cases e
    obtain ⟨q, vs, e1, e2, e3, e4, e5⟩ := S.1.getOwn hx
    rw [ev] at e1
    cases e1
    exact ⟨q, vs, rfl, SqL.of e2, e3.cut a b⟩
  · rename_i xs hx
    cases e
    obtain ⟨w, e1, r1⟩ := S.1.get hx rfl
    rw [ev] at e1
    cases e1
    obtain ⟨q, vs, rfl, g1, g2⟩ := RV.lst.mp r1
    exact ⟨q, vs, rfl, SqL.of (S.1.ex _ _ g1), g2.cut a b⟩
  · cases e
theorem me_slV {lo hi : Option Expr} {ml mh : MP} (hN : X.N[i]? = some x) (hv : Vis X.env.scope x) (hl : PO X lo (rdP c ml)) (hh : PO X hi (rdP c mh)) (hK : c.K = X.K := by rfl) (hd : (x == ("__debug__" : Str)) = false := by decide) (hcd : (x == ("__classdict__" : Str)) = false := by decide) :
    PE X (.Subscript (.Name x p) (.Slice lo hi none p2) pos) (rdE c (mSlV i ml mh)) :=
  PEw (pe_slice sl_list (pe_var hN hv hd hcd) hl hh) fun σ H Q h => by
    obtain ⟨F, Hk, bp, ρ, S, h⟩ := h
    unfold mSlV at h
    split at h
    · rename_i hh
      obtain ⟨v, ev⟩ := has_rs S hh
      refine ⟨v, ev, ?_⟩
      refine wP (bP postE S h) fun a H2 ⟨Hk2, ρ2, x2, S2, h2⟩ => ?_
      refine wP (bP postE S2 h2) fun b H3 ⟨Hk3, ρ3, x3, S3, h3⟩ => ?_
      have h3 : okE c F Hk3 bp σ Q (match slV ρ3 i a b with | some zs => .ok (.lst zs, ρ3) | none => .stuck) := h3
      cases e : slV ρ3 i a b with
      | none => rw [e] at h3; exact h3.elim
      | some zs =>
        rw [e] at h3
        obtain ⟨q, vs, rfl, s1, s2⟩ := slV_rs S3 e ev
        rw [← hK]
        exact ⟨q, vs, rfl, s1, fun w hw => h3 _ _ _ (Ex.new (S3.1.ex.back hw)) (S3.1.new hw) (RV.lst.mpr ⟨w, _, rfl, upd_same, s2.mono (Ex.new (S3.1.ex.back hw))⟩)⟩
    · exact h.elim
end
end Tm
set_option Elab.async false
set_option linter.all false
set_option maxRecDepth 100000
set_option maxHeartbeats 2000000
namespace Tm
open PySem L2
open Evl (Ex ex_rd ex_l ex_t)
inductive BA where
  | v (x : MV) | b (i : Nat)
abbrev MB := Env → Res (List BA × Env)
def idxB : List BA → List Nat
  | [] => []
  | .v _ :: r => idxB r
  | .b i :: r => i :: idxB r
def MV.held : MV → Bool
  | .own _ => true
  | .obj _ _ => true
  | _ => false
def fill : List BA → Env → Option (List MV)
  | [], _ => some []
  | .v x :: r, ρ => (match fill r ρ with | some xs => some (x :: xs) | none => none)
  | .b i :: r, ρ => (match ρ[i]?, fill r ρ with | some (some x), some xs => if x.held then some (x :: xs) else none | _, _ => none)
def back (ρ : Env) : List Nat → Env → Env
  | [], _ => ρ
  | i :: is, os => back (ρ.set i (os.head?).join) is os.tail
def BVs (K : PySem.W.Frag) (Hk : Hp) (σ : St) : List BA → List V → Prop
  | [], vs => vs = []
  | .v x :: r, vs => ∃ v us, vs = v :: us ∧ RV K Hk x v ∧ BVs K Hk σ r us
  | .b i :: r, vs => ∃ v us, vs = v :: us ∧ σ[i]? = some (some v) ∧ BVs K Hk σ r us
theorem BVs.mono {K : PySem.W.Frag} {Hk Hk' : Hp} {σ : St} (e : Ex Hk Hk') : ∀ {xs : List BA} {vs : List V}, BVs K Hk σ xs vs → BVs K Hk' σ xs vs
  | [], _, h => h
  | .v x :: r, vs, ⟨v, us, e1, e2, e3⟩ => ⟨v, us, e1, RV.mono e _ _ e2, BVs.mono e e3⟩
  | .b i :: r, vs, ⟨v, us, e1, e2, e3⟩ => ⟨v, us, e1, e2, BVs.mono e e3⟩
theorem BVs.length {K : PySem.W.Frag} {Hk : Hp} {σ : St} : ∀ {xs : List BA} {vs : List V}, BVs K Hk σ xs vs → vs.length = xs.length
  | [], _, h => by rw [show _ = [] from h]; rfl
  | .v x :: r, vs, ⟨v, us, e1, e2, e3⟩ => by rw [e1, List.length_cons, List.length_cons, e3.length]
  | .b i :: r, vs, ⟨v, us, e1, e2, e3⟩ => by rw [e1, List.length_cons, List.length_cons, e3.length]
def okBA (c : Ct) (F Hk : Hp) (bp : List (Nat × Addr)) (σ : St) (Q : List V → Hp → Prop) : Res (List BA × Env) → Prop
  | .ok (xs, ρ') => ∀ Hk' H' vs, Ex Hk Hk' → RS c.K F Hk' H' bp σ ρ' → BVs c.K Hk' σ xs vs → Q vs H'
  | .exc e ρ' => Wish c F Hk bp σ e ρ'
  | .stuck => False
theorem okBA.mono {c : Ct} {F Hk Hk' : Hp} {bp : List (Nat × Addr)} {σ : St} {Q : List V → Hp → Prop} {r : Res (List BA × Env)} (x : Ex Hk Hk') (h : okBA c F Hk bp σ Q r) : okBA c F Hk' bp σ Q r := by
  cases r with
  | ok a => exact fun Hk2 H2 v x2 => h Hk2 H2 v (x.trans x2)
  | exc e ρ => exact Wish.mono x h
  | stuck => exact h
end Tm
set_option Elab.async false
set_option linter.all false
set_option maxRecDepth 100000
set_option maxHeartbeats 2000000
namespace Tm
open PySem L2
open Evl (Ex ex_rd ex_l ex_t)
def cbE (f : MF) (args : List BA) (ρ : Env) : Res (MV × Env) := match fill args ρ with
  | some xs => (match f xs with | .ok (v, os) => .ok (v, back ρ (idxB args) os) | .exc e os => .exc e (back ρ (idxB args) os) | .stuck => .stuck)
  | none => .stuck
end Tm
set_option Elab.async false
set_option linter.all false
set_option maxRecDepth 100000
set_option maxHeartbeats 2000000
namespace Tm
open PySem L2
open Evl (Ex ex_rd ex_l ex_t)
def putM (f : Str) (v : MV) : List (Str × MV) → List (Str × MV)
  | [] => [(f, v)]
  | (g, x) :: r => if g = f then (g, v) :: r else (g, x) :: putM f v r
theorem look_eq {α : Type} {f g : Str} {x : α} {r : List (Str × α)} : ((g, x) :: r).lookup f = if g = f then some x else r.lookup f := by
  rw [List.lookup_cons]
  by_cases e : g = f
  · subst e; simp
  · rw [if_neg e]
    have : (f == g) = false := by simpa using fun z => e z.symm
    rw [this]
section
variable {K : PySem.W.Frag} {Hk H : Hp}
theorem OFs.fresh : ∀ {fs : List (Str × MV)} {vfs : List (Str × V)} {B : List Addr} {f : Str}, OFs K Hk H fs vfs B → fs.lookup f = none → vfs.lookup f = none ∧
    ∀ (Hk' H' : Hp) (x' : MV) (v' : V) (A1' : List Addr), Ex Hk Hk' → (∀ a ∈ B, ∀ o, H a = some o → H' a = some o) → OF K Hk' H' x' v' A1' → OFs K Hk' H' (putM f x' fs) (putF f v' vfs) (B ++ A1')
  | [], vfs, B, f, ⟨e1, e2⟩, _ => by
    subst e1 e2
    exact ⟨rfl, fun Hk' H' x' v' A1' ex k o' => ⟨v', [], A1', [], rfl, by simp, o', rfl, rfl⟩⟩
  | (n, y) :: fs, vfs, B, f, ⟨v, r, C, D, e1, e2, o1, o2⟩, h => by
    subst e1 e2
    rw [look_eq] at h
    by_cases e : n = f
    · rw [if_pos e] at h; cases h
    · rw [if_neg e] at h
      obtain ⟨g1, g4⟩ := OFs.fresh o2 h
      refine ⟨by rw [look_eq, if_neg e]; exact g1, fun Hk' H' x' v' A1' ex k o' => ?_⟩
      unfold putM putF
      rw [if_neg e, if_neg e]
      exact ⟨v, _, C, D ++ A1', rfl, by simp, o1.move ex fun a ha => k a (by simp [ha]), g4 Hk' H' x' v' A1' ex (fun a ha => k a (by simp [ha])) o'⟩
theorem OFs.len : ∀ {fs : List (Str × MV)} {vfs : List (Str × V)} {B : List Addr}, OFs K Hk H fs vfs B → vfs.length = fs.length
  | [], vfs, B, ⟨e1, _⟩ => by rw [e1]; rfl
  | _ :: fs, vfs, B, ⟨v, r, C, D, e1, e2, o1, o2⟩ => by rw [e1, List.length_cons, List.length_cons, o2.len]
theorem OV.obj {C : Str} {fs : List (Str × MV)} {v : V} {A : List Addr} : OV K Hk H (.obj C fs) v A ↔ ∃ p CA dx vfs B, v = .ref p ∧ A = p :: B ∧ PySem.W.nsIn K mainGlobals C = some (some (.ref CA)) ∧ H p = some (.ins CA dx vfs) ∧ OFs K Hk H fs vfs B ∧ (p :: B).Nodup := by
  unfold OV; rfl
theorem OF.own {xs : List MV} {v : V} {A : List Addr} : OF K Hk H (.own xs) v A ↔ ∃ p vs, v = .ref p ∧ A = [p] ∧ H p = some (.lst vs) ∧ RVs K Hk xs vs := by
  unfold OF; rfl
end
structure ObC (K : PySem.W.Frag) (C : Str) (fs : List Str) : Prop where
  ex : ∀ CA, PySem.W.nsIn K mainGlobals C = some (some (.ref CA)) → Cls K CA ∧ ∀ f ∈ fs, NoAttr K CA f
end Tm
set_option Elab.async false
set_option linter.all false
set_option maxRecDepth 100000
set_option maxHeartbeats 2000000
namespace Tm
open PySem L2
open Evl (Ex ex_rd ex_l ex_t)
structure ObM (P : Program) (w : World) (K : PySem.W.Frag) (mg : Str → Option Value) (base : Heap) (C m : Str) (k : Nat) (ps : List Str) (bs : List Nat) (f : MF) : Prop where
  ex : ∃ CA g fd, PySem.W.nsIn K mainGlobals C = some (some (.ref CA)) ∧ Cls K CA ∧ Meth K CA m g ∧ FnOk P w K mg base (L2N.CX P w) k g fd ps (spF K mg ps.length bs f) ∧ Binds K fd ps []
structure ObN (P : Program) (w : World) (K : PySem.W.Frag) (mg : Str → Option Value) (base : Heap) (C : Str) (k : Nat) (f : MF) : Prop where
  ex : ∃ CA g fd ps, PySem.W.nsIn K mainGlobals C = some (some (.ref CA)) ∧ mg C = some (.ref CA) ∧ Mk K CA g ∧ FnOk P w K mg base (L2N.CX P w) k g fd ps (spF K mg 1 [0] f) ∧ Binds K fd ps []
end Tm
set_option Elab.async false
set_option linter.all false
set_option maxRecDepth 100000
set_option maxHeartbeats 2000000
namespace Tm
open PySem L2
open Evl (Ex ex_rd ex_l ex_t)
def FnA (K : PySem.W.Frag) (a : Addr) : Prop := ∃ o, K.lookup a = some o ∧ o.cls = .type "function"
theorem FnA.ty {X : Cx} {pins : List (Addr × Obj)} {σ : St} {H : Hp} {s : Shared} {a : Addr} (I : Inv X pins σ H s) (h : FnA X.K a) : s.TypeIs (.ref a) "function" := by
  obtain ⟨o, h1, h2⟩ := h
  exact ⟨o, I.kIn _ _ h1, h2⟩
structure FnI (K : PySem.W.Frag) (N : List Str) : Prop where
  fn : ∀ x ∈ N, ∀ a, PySem.W.nsIn K mainGlobals x = some (some (.ref a)) → FnA K a
  inj : ∀ x ∈ N, ∀ y ∈ N, ∀ a, PySem.W.nsIn K mainGlobals x = some (some (.ref a)) → PySem.W.nsIn K mainGlobals y = some (some (.ref a)) → x = y
structure FnT (P : Program) (w : World) (K : PySem.W.Frag) (mg : Str → Option Value) (base : Heap) (T : List (Str × MF)) : Prop where
  ex : ∀ x f, T.lookup x = some f → ∀ a, PySem.W.nsIn K mainGlobals x = some (some (.ref a)) → ∃ fd ps, FnOk P w K mg base (L2N.CX P w) 2 a fd ps (spF K mg 1 [] f) ∧ PySem.W.keepIn K (.ref a) = true ∧ Binds K fd ps []
end Tm
set_option Elab.async false
set_option linter.all false
set_option maxRecDepth 100000
set_option maxHeartbeats 2000000
namespace Tm
open PySem L2
open Evl (Ex ex_rd ex_l ex_t)
section
variable {X : Cx} {c : Ct} {C x f : Str} {fl : List Str} {i : Nat} {p p2 pos apos cpos : Pos} {e : Expr} {es : List Expr}
structure FnG (K : PySem.W.Frag) (mg : Str → Option Value) (x : Str) : Prop where
  ex : ∃ a, mg x = some (.ref a) ∧ PySem.W.nsIn K mainGlobals x = some (some (.ref a))
end
end Tm
set_option Elab.async false
set_option linter.all false
set_option maxRecDepth 100000
set_option maxHeartbeats 2000000
namespace Tm
open PySem L2
open Evl (Ex ex_rd ex_l ex_t)
structure ObX (P : Program) (w : World) (K : PySem.W.Frag) (mg : Str → Option Value) (base : Heap) (C m : Str) (k : Nat) (ps : List Str) (sp : Sp) : Prop where
  ex : ∃ CA g fd, PySem.W.nsIn K mainGlobals C = some (some (.ref CA)) ∧ Cls K CA ∧ Meth K CA m g ∧ FnOk P w K mg base (L2N.CX P w) k g fd ps sp ∧ Binds K fd ps []
end Tm
set_option Elab.async false
set_option linter.all false
set_option maxRecDepth 100000
set_option maxHeartbeats 2000000
namespace Tm
open PySem L2
theorem nr {α : Sort _} {a b : α} (h : a = b) : a = b := h
section
variable {α β : Type} {a b : ME} {ρ ρ1 : Env} {r : Option MV} {x y z : MV}
@[simp] theorem bind_ok {x : α} {f : α → Env → Res (β × Env)} : (Res.ok (x, ρ)).bind f = f x ρ := nr rfl
@[simp] theorem bind_exc {e : MX} {f : α → Env → Res (β × Env)} : (Res.exc e ρ : Res (α × Env)).bind f = .exc e ρ := nr rfl
@[simp] theorem bind_stuck {f : α → Env → Res (β × Env)} : (Res.stuck : Res (α × Env)).bind f = .stuck := nr rfl
@[simp] theorem b0_ok {x : α} {f : α → Env → Res (β × Env)} : (Res.ok (x, ρ)).b0 f = f x ρ := nr rfl
@[simp] theorem mVar_ap {i : Nat} : mVar i (r :: ρ) = match (r :: ρ)[i]? with
  | some (some (.own xs)) => .ok (.lst xs, (r :: ρ).set i (some (.lst xs)))
  | some (some (.obj _ _)) => .stuck
  | some (some (.dow _ _)) => .stuck
  | some (some (.dot _ _)) => .stuck
  | some (some x) => .ok (x, (r :: ρ))
  | _ => .stuck := nr rfl
@[simp] theorem mC_ap  : mC x (r :: ρ) = .ok (x, (r :: ρ)) := nr rfl
@[simp] theorem mOp_ap {f : MV → MV → Option MV} : mOp f a b (r :: ρ) = (a (r :: ρ)).bind fun x ρ1 => (b ρ1).bind fun y ρ2 => match f x y with | some z => .ok (z, ρ2) | none => .stuck := nr rfl
@[simp] theorem mUn_ap {f : MV → Option MV} : mUn f a (r :: ρ) = (a (r :: ρ)).bind fun x ρ1 => match f x with | some z => .ok (z, ρ1) | none => .stuck := nr rfl
@[simp] theorem mTest_ap  : mTest a (r :: ρ) = (a (r :: ρ)).bind fun x ρ1 => match x with | .bl b => .ok (b, ρ1) | _ => .stuck := nr rfl
@[simp] theorem mChain_ap {f g : MV → MV → Option MV} {d : ME} : mChain f g a b d (r :: ρ) = (a (r :: ρ)).bind fun x ρ1 => (b ρ1).bind fun y ρ2 => match f x y with
  | some (.bl true) => (d ρ2).bind fun z ρ3 => match g y z with | some w => .ok (w, ρ3) | none => .stuck
  | some (.bl false) => .ok (.bl false, ρ2)
  | _ => .stuck := nr rfl
@[simp] theorem mAndT_ap {a b : MT} : mAndT a b (r :: ρ) = (a (r :: ρ)).bind fun x ρ1 => if x then b ρ1 else .ok (false, ρ1) := nr rfl
@[simp] theorem mOrT_ap {a b : MT} : mOrT a b (r :: ρ) = (a (r :: ρ)).bind fun x ρ1 => if x then .ok (true, ρ1) else b ρ1 := nr rfl
@[simp] theorem mNotT_ap {a : MT} : mNotT a (r :: ρ) = (a (r :: ρ)).bind fun x ρ1 => .ok (!x, ρ1) := nr rfl
@[simp] theorem mIf_ap {t : MT} : mIf t a b (r :: ρ) = (t (r :: ρ)).bind fun x ρ1 => if x then a ρ1 else b ρ1 := nr rfl
@[simp] theorem mBv_ap {t : MT} : mBv t (r :: ρ) = (t (r :: ρ)).bind fun x ρ1 => .ok (.bl x, ρ1) := nr rfl
@[simp] theorem mNil_ap  : mNil (r :: ρ) = .ok ([], (r :: ρ)) := nr rfl
@[simp] theorem mCons_ap {b : MA} : mCons a b (r :: ρ) = (a (r :: ρ)).bind fun x ρ1 => (b ρ1).bind fun xs ρ2 => .ok (x :: xs, ρ2) := nr rfl
@[simp] theorem mTup_ap {a : MA} : mTup a (r :: ρ) = (a (r :: ρ)).bind fun xs ρ1 => if szOk xs.length then .ok (.tup xs, ρ1) else .stuck := nr rfl
@[simp] theorem mLst_ap {a : MA} : mLst a (r :: ρ) = (a (r :: ρ)).bind fun xs ρ1 => if szOk xs.length then .ok (.lst xs, ρ1) else .stuck := nr rfl
@[simp] theorem mLstO_ap {a : MA} : mLstO a (r :: ρ) = (a (r :: ρ)).bind fun xs ρ1 => if szOk xs.length then .ok (.own xs, ρ1) else .stuck := nr rfl
@[simp] theorem mIxV_ap {i : Nat} : mIxV i b (r :: ρ) = if has (r :: ρ) i then (b (r :: ρ)).bind fun y ρ1 => match ixV ρ1 i y with | some z => .ok (z, ρ1) | none => .stuck else .stuck := nr rfl
@[simp] theorem mNo_ap  : mNo (r :: ρ) = .ok (none, (r :: ρ)) := nr rfl
@[simp] theorem mPart_ap  : mPart a (r :: ρ) = (a (r :: ρ)).bind fun x ρ1 => match x with | .int i => .ok (some i, ρ1) | _ => .stuck := nr rfl
@[simp] theorem mSl_ap {l h : Env → Res (Option Int × Env)} : mSl a l h (r :: ρ) = (a (r :: ρ)).bind fun x ρ1 => (l ρ1).bind fun i ρ2 => (h ρ2).bind fun j ρ3 => match fSl x i j with | some z => .ok (z, ρ3) | none => .stuck := nr rfl
@[simp] theorem gSet_ap {i : Nat} : gSet i x (r :: ρ) = if i < (r :: ρ).length then some ((r :: ρ).set i (some x)) else none := nr rfl
@[simp] theorem gsNil_ap  : gsNil [] (r :: ρ) = some (r :: ρ) := nr rfl
@[simp] theorem gsCons_ap {g : MG} {h : List MV → Env → Option Env} {xs : List MV} : gsCons g h (x :: xs) (r :: ρ) = match g x (r :: ρ) with | some ρ1 => h xs ρ1 | none => none := nr rfl
@[simp] theorem gTp_tup {n : Nat} {h : List MV → Env → Option Env} {xs : List MV} : gTp n h (.tup xs) ρ = if xs.length = n then h xs ρ else none := nr rfl
@[simp] theorem gTp_lst {n : Nat} {h : List MV → Env → Option Env} {xs : List MV} : gTp n h (.lst xs) ρ = if xs.length = n then h xs ρ else none := nr rfl
@[simp] theorem mAsg_ap {g : MG} : mAsg a g (r :: ρ) = (a (r :: ρ)).bind fun x ρ1 => match g x ρ1 with | some ρ2 => .ok (.nx, ρ2) | none => .stuck := nr rfl
@[simp] theorem mSetO_ap {i : Nat} : mSetO i a (r :: ρ) = (a (r :: ρ)).bind fun x ρ1 => if i < ρ1.length then .ok (.nx, ρ1.set i (some x)) else .stuck := nr rfl
@[simp] theorem mPass_ap  : mPass (r :: ρ) = .ok (.nx, (r :: ρ)) := nr rfl
@[simp] theorem mSeq_ap {a b : MS} : mSeq a b (r :: ρ) = (a (r :: ρ)).bind fun f ρ1 => match f with | .nx => b ρ1 | f => .ok (f, ρ1) := nr rfl
@[simp] theorem mIfS_ap {t : MT} {a b : MS} : mIfS t a b (r :: ρ) = (t (r :: ρ)).bind fun x ρ1 => if x then a ρ1 else b ρ1 := nr rfl
@[simp] theorem mRet_ap  : mRet a (r :: ρ) = (a (r :: ρ)).bind fun x ρ1 => .ok (.rt x, ρ1) := nr rfl
@[simp] theorem mDrop_ap  : mDrop a (r :: ρ) = (a (r :: ρ)).bind fun _ ρ1 => .ok (.nx, ρ1) := nr rfl
@[simp] theorem mMove_ap {i : Nat} : mMove i (r :: ρ) = match (r :: ρ)[i]? with
  | some (some (.obj _ _)) => .stuck
  | some (some x) => .ok (x, (r :: ρ).set i none)
  | _ => .stuck := nr rfl
@[simp] theorem mFz_ap  : mFz a (r :: ρ) = (a (r :: ρ)).bind fun x ρ1 => match fz x with | some y => .ok (y, ρ1) | none => .stuck := nr rfl
@[simp] theorem mCall_ap {f : MF} {a : MA} : mCall f a (r :: ρ) = (a (r :: ρ)).bind fun xs ρ1 => match f xs with
  | .ok (v, _) => .ok (v, ρ1)
  | .exc e _ => .exc e ρ1
  | .stuck => .stuck := nr rfl
@[simp] theorem mCall0_ap {f : MF} {a : MA} : mCall0 f a (r :: ρ) = (a (r :: ρ)).bind fun xs ρ1 => match f xs with
  | .ok (v, _) => .ok (v, ρ1)
  | _ => .stuck := nr rfl
@[simp] theorem mBlt_ap {f : List MV → Option MV} {a : MA} : mBlt f a (r :: ρ) = (a (r :: ρ)).bind fun xs ρ1 => match f xs with | some z => .ok (z, ρ1) | none => .stuck := nr rfl
@[simp] theorem mListO_ap {a : MA} : mListO a (r :: ρ) = (a (r :: ρ)).bind fun xs ρ1 => match bList xs with | some (.lst ys) => .ok (.own ys, ρ1) | _ => .stuck := nr rfl
def r1M (xs : List MV) (ρ1 : Env) : Res (List MV × Env) := match xs with
  | [.int j] => if inR j then .ok (rngM 0 1 j.toNat, ρ1) else .stuck
  | _ => .stuck
@[simp] theorem mR1_ap {a : MA} : mR1 a (r :: ρ) = (a (r :: ρ)).bind r1M := nr rfl
@[simp] theorem r1M_i {j : Int} (h : inR j = true) : r1M [.int j] ρ = .ok (rngM 0 1 j.toNat, ρ) := if_pos h
def r3M (xs : List MV) (ρ1 : Env) : Res (List MV × Env) := match xs with
  | [.int i, .int j, .int k] => if rgOk i j k then .ok (rngM i k (Builtin.Range.rangeSize i j k).toNat, ρ1) else .stuck
  | _ => .stuck
@[simp] theorem mR3_ap {a : MA} : mR3 a (r :: ρ) = (a (r :: ρ)).bind r3M := nr rfl
@[simp] theorem r3M_i {i j k : Int} (h : rgOk i j k = true) : r3M [.int i, .int j, .int k] ρ = .ok (rngM i k (Builtin.Range.rangeSize i j k).toNat, ρ) := if_pos h
def lmM (f : List MV → List MV → Option (List MV × MV)) (i : Nat) (ys : List MV) (ρ1 : Env) : Res (MV × Env) := match ρ1[i]? with
  | some (some (.own xs)) => (match f xs ys with | some (zs, z) => .ok (z, ρ1.set i (some (.own zs))) | none => .stuck)
  | _ => .stuck
@[simp] theorem mLm_ap {f : List MV → List MV → Option (List MV × MV)} {i : Nat} {a : MA} : mLm f i a (r :: ρ) = if isOwn (r :: ρ) i then (a (r :: ρ)).bind (lmM f i) else .stuck := nr rfl
@[simp] theorem lmM_o {f : List MV → List MV → Option (List MV × MV)} {i : Nat} {xs ys : List MV} (h : ρ[i]? = some (some (.own xs))) : lmM f i ys ρ = (match f xs ys with | some (zs, z) => .ok (z, ρ.set i (some (.own zs))) | none => .stuck) := by unfold lmM; rw [h]
@[simp] theorem isOwn_o {i : Nat} {xs : List MV} (h : ρ[i]? = some (some (.own xs))) : isOwn ρ i = true := by unfold isOwn; rw [h]
@[simp] theorem has_o {i : Nat} {x : MV} (h : ρ[i]? = some (some x)) : has ρ i = true := by unfold has; rw [h]
def setIxM (i : Nat) (z y : MV) (ρ2 : Env) : Res (Fl × Env) := match ρ2[i]?, y with
  | some (some (.own xs)), .int k => (match ixN xs.length k with | some j => .ok (.nx, ρ2.set i (some (.own (xs.set j z)))) | none => .stuck)
  | _, _ => .stuck
@[simp] theorem mSetIx_ap {i : Nat} : mSetIx i a b (r :: ρ) = (a (r :: ρ)).bind fun z ρ1 => if has ρ1 i then (b ρ1).bind (setIxM i z) else .stuck := nr rfl
theorem setIxM_o {i : Nat} {z : MV} {xs : List MV} {k : Int} {j : Nat} (h : ρ[i]? = some (some (.own xs))) (h2 : ixN xs.length k = some j) : setIxM i z (.int k) ρ = .ok (.nx, ρ.set i (some (.own (xs.set j z)))) := by unfold setIxM; rw [h]; simp only [h2]
@[simp] theorem flatM_i {k : Int} : flatM (.int k) = true := nr rfl
@[simp] theorem mItV_ap  : mItV a (r :: ρ) = (a (r :: ρ)).bind fun x ρ1 => match itemsOf x with | some xs => .ok (xs, ρ1) | none => .stuck := nr rfl
@[simp] theorem mZip_ap {a : MA} : mZip a (r :: ρ) = (a (r :: ρ)).bind fun xs ρ1 => match xs with
  | [x, y] => (match zitM x, zitM y with | some xs, some ys => .ok (zipM xs ys, ρ1) | _, _ => .stuck)
  | _ => .stuck := nr rfl
@[simp] theorem zitM_l {xs : List MV} : zitM (.lst xs) = some xs := nr rfl
@[simp] theorem zitM_t {xs : List MV} : zitM (.tup xs) = some xs := nr rfl
@[simp] theorem zitM_s {z : Str} : zitM (.str z) = some (signsM z) := nr rfl
@[simp] theorem mEnum_ap {a : MA} : mEnum a (r :: ρ) = (a (r :: ρ)).bind fun xs ρ1 => match xs with
  | [.lst xs] => .ok (enumFrom 0 xs, ρ1)
  | _ => .stuck := nr rfl
@[simp] theorem mYes_ap  : mYes (r :: ρ) = .ok (true, (r :: ρ)) := nr rfl
@[simp] theorem mFor_ap {i : MI} {g : MG} {b : MS} : mFor i g b (r :: ρ) = (i (r :: ρ)).bind fun xs ρ1 => mLoop g b xs ρ1 := nr rfl
@[simp] theorem mLcO_ap {it : MI} {g : Tgt} {t : MT} {vs : List Nat} : mLcO it g t a vs (r :: ρ) = (it (r :: ρ)).bind fun xs ρ1 => if perAt ρ1 vs then (mLcLoop g t a vs xs [] ρ1).b0 fun ys ρ2 => .ok (.own ys, backM ρ1 ρ2 vs) else .stuck := nr rfl
end
@[simp] theorem fz_lst {xs : List MV} : fz (.lst xs) = some (.lst xs) := nr rfl
@[simp] theorem fz_own {xs : List MV} : fz (.own xs) = some (.lst xs) := nr rfl
@[simp] theorem fz_tup {xs : List MV} : fz (.tup xs) = some (.tup xs) := nr rfl
@[simp] theorem fz_int {i : Int} : fz (.int i) = some (.int i) := nr rfl
@[simp] theorem fz_bl {i : Bool} : fz (.bl i) = some (.bl i) := nr rfl
@[simp] theorem fz_str {i : Str} : fz (.str i) = some (.str i) := nr rfl
@[simp] theorem fz_non : fz .non = some .non := nr rfl
@[simp] theorem fz_scr {i : List Int} : fz (.scr i) = some (.scr i) := nr rfl
section
variable {i j : Int}
@[simp] theorem fAdd_ii : fAdd (.int i) (.int j) = some (.int (i + j)) := nr rfl
@[simp] theorem fAdd_ss {a b : Str} : fAdd (.str a) (.str b) = if szOk (a.length + b.length) then some (.str (a ++ b)) else none := nr rfl
@[simp] theorem fAdd_ll {a b : List MV} : fAdd (.lst a) (.lst b) = if szOk (a.length + b.length) then some (.lst (a ++ b)) else none := nr rfl
@[simp] theorem fAdd_tt {a b : List MV} : fAdd (.tup a) (.tup b) = if szOk (a.length + b.length) then some (.tup (a ++ b)) else none := nr rfl
@[simp] theorem fSub_ii : fSub (.int i) (.int j) = some (.int (i - j)) := nr rfl
@[simp] theorem fMul_ii : fMul (.int i) (.int j) = if mulOk i j then some (.int (i * j)) else none := nr rfl
@[simp] theorem fDiv_ii : fDiv (.int i) (.int j) = if divOk j then some (.int (i.fdiv j)) else none := nr rfl
@[simp] theorem fMod_ii : fMod (.int i) (.int j) = if decide (j ≠ 0) then some (.int (i.fmod j)) else none := nr rfl
@[simp] theorem fPow_ii : fPow (.int i) (.int j) = if decide (0 ≤ j) && decide (j ≤ 1000000) && decide (i.natAbs < 2 ^ 64) then some (.int (i ^ j.toNat)) else none := nr rfl
@[simp] theorem fLt_ii : fLt (.int i) (.int j) = some (.bl (decide (i < j))) := nr rfl
@[simp] theorem fLe_ii : fLe (.int i) (.int j) = some (.bl (decide (i ≤ j))) := nr rfl
@[simp] theorem fGt_ii : fGt (.int i) (.int j) = some (.bl (decide (j < i))) := nr rfl
@[simp] theorem fGe_ii : fGe (.int i) (.int j) = some (.bl (decide (j ≤ i))) := nr rfl
@[simp] theorem fNeg_i : fNeg (.int i) = some (.int (-i)) := nr rfl
@[simp] theorem fEq_ii : fEq (.int i) (.int j) = some (.bl (decide (i = j))) := nr rfl
@[simp] theorem fNe_ii : fNe (.int i) (.int j) = some (.bl (!decide (i = j))) := nr rfl
@[simp] theorem fEq_ss {a b : Str} : fEq (.str a) (.str b) = some (.bl (decide (a = b))) := nr rfl
@[simp] theorem fNe_ss {a b : Str} : fNe (.str a) (.str b) = some (.bl (!decide (a = b))) := nr rfl
@[simp] theorem bLen_l {a : List MV} : bLen [.lst a] = some (.int a.length) := nr rfl
@[simp] theorem bLen_t {a : List MV} : bLen [.tup a] = some (.int a.length) := nr rfl
@[simp] theorem bLen_c {a : List Int} : bLen [.scr a] = some (.int a.length) := nr rfl
@[simp] theorem bAbs_i : bAbs [.int i] = some (.int (if i < 0 then -i else i)) := nr rfl
@[simp] theorem bMax_i : bMax [.int i, .int j] = some (.int (if j > i then j else i)) := nr rfl
@[simp] theorem bMin_i : bMin [.int i, .int j] = some (.int (if j < i then j else i)) := nr rfl
@[simp] theorem bInt_i : bInt [.int i] = some (.int i) := nr rfl
@[simp] theorem bInt_b {k : Bool} : bInt [.bl k] = some (.int (if k then 1 else 0)) := nr rfl
@[simp] theorem fIx_l {a : List MV} : fIx (.lst a) (.int i) = atI a i := nr rfl
@[simp] theorem fIx_t {a : List MV} : fIx (.tup a) (.int i) = atI a i := nr rfl
@[simp] theorem fIx_c {a : List Int} : fIx (.scr a) (.int i) = (atI a i).map .int := nr rfl
@[simp] theorem ixL_i {a : List MV} : ixL a (.int i) = atI a i := nr rfl
@[simp] theorem itemsOf_l {a : List MV} : itemsOf (.lst a) = some a := nr rfl
@[simp] theorem itemsOf_t {a : List MV} : itemsOf (.tup a) = some a := nr rfl
@[simp] theorem itemsOf_c {a : List Int} : itemsOf (.scr a) = some (a.map .int) := nr rfl
@[simp] theorem bTuple_l {a : List MV} : bTuple [.lst a] = some (.tup a) := nr rfl
@[simp] theorem bTuple_t {a : List MV} : bTuple [.tup a] = some (.tup a) := nr rfl
@[simp] theorem lmAppend_1 {a : List MV} {y : MV} : lmAppend a [y] = if decide (a.length < sizeLine) then some (a ++ [y], .non) else none := nr rfl
end
@[simp] theorem nat_neg {k : Nat} : ((k : Int) < 0) = False := by simp
@[simp] theorem nat_toNat {k : Nat} : ((k : Int)).toNat = k := nr rfl
theorem szOk_small {n : Nat} (h : n ≤ 16777216) : szOk n = true := szOk_iff.mpr (by rw [sizeLine_eq]; exact h)
theorem atI_ge {α : Type} {xs : List α} {i : Int} (h : 0 ≤ i) : atI xs i = xs[i.toNat]? := by
  unfold atI ixN
  rw [if_pos h]
  by_cases e : i < xs.length
  · rw [if_pos e]; rfl
  · rw [if_neg e, List.getElem?_eq_none (by omega)]; rfl
@[simp] theorem atI_0 {α : Type} {xs : List α} : atI xs 0 = xs[0]? := atI_ge (by decide)
@[simp] theorem atI_1 {α : Type} {xs : List α} : atI xs 1 = xs[1]? := atI_ge (by decide)
@[simp] theorem atI_2 {α : Type} {xs : List α} : atI xs 2 = xs[2]? := atI_ge (by decide)
@[simp] theorem atI_3 {α : Type} {xs : List α} : atI xs 3 = xs[3]? := atI_ge (by decide)
@[simp] theorem atI_4 {α : Type} {xs : List α} : atI xs 4 = xs[4]? := atI_ge (by decide)
@[simp] theorem atI_5 {α : Type} {xs : List α} : atI xs 5 = xs[5]? := atI_ge (by decide)
@[simp] theorem atI_6 {α : Type} {xs : List α} : atI xs 6 = xs[6]? := atI_ge (by decide)
@[simp] theorem atI_7 {α : Type} {xs : List α} : atI xs 7 = xs[7]? := atI_ge (by decide)
@[simp] theorem atI_8 {α : Type} {xs : List α} : atI xs 8 = xs[8]? := atI_ge (by decide)
@[simp] theorem atI_9 {α : Type} {xs : List α} : atI xs 9 = xs[9]? := atI_ge (by decide)
@[simp] theorem atI_10 {α : Type} {xs : List α} : atI xs 10 = xs[10]? := atI_ge (by decide)
@[simp] theorem atI_11 {α : Type} {xs : List α} : atI xs 11 = xs[11]? := atI_ge (by decide)
@[simp] theorem atI_12 {α : Type} {xs : List α} : atI xs 12 = xs[12]? := atI_ge (by decide)
@[simp] theorem atI_13 {α : Type} {xs : List α} : atI xs 13 = xs[13]? := atI_ge (by decide)
@[simp] theorem atI_14 {α : Type} {xs : List α} : atI xs 14 = xs[14]? := atI_ge (by decide)
@[simp] theorem atI_15 {α : Type} {xs : List α} : atI xs 15 = xs[15]? := atI_ge (by decide)
theorem mulOk_l {i j : Int} (h1 : -(2 ^ 64) < i) (h2 : i < 2 ^ 64) : mulOk i j = true := by simp only [mulOk, Bool.or_eq_true, Bool.and_eq_true, decide_eq_true_eq]; exact .inl (.inl ⟨h1, h2⟩)
theorem mulOk_r {i j : Int} (h1 : -(2 ^ 64) < j) (h2 : j < 2 ^ 64) : mulOk i j = true := by simp only [mulOk, Bool.or_eq_true, Bool.and_eq_true, decide_eq_true_eq]; exact .inl (.inr ⟨h1, h2⟩)
theorem inR_of {i : Int} (h1 : -(2 ^ 62) ≤ i) (h2 : i < 2 ^ 62) : inR i = true := inR_iff.mpr ⟨h1, h2⟩
theorem loop_inv {g : MG} {b : MS} (I : Nat → Env → Prop) : ∀ (xs : List MV) (k : Nat) (ρ : Env), I k ρ → (∀ i x ρ, xs[i]? = some x → I (k + i) ρ → ∃ ρ1 ρ2, g x ρ = some ρ1 ∧ (b ρ1 = .ok (.nx, ρ2) ∨ b ρ1 = .ok (.ct, ρ2)) ∧ I (k + i + 1) ρ2) → ∃ ρ', mLoop g b xs ρ = .ok (.nx, ρ') ∧ I (k + xs.length) ρ'
  | [], k, ρ, h, _ => ⟨ρ, rfl, h⟩
  | x :: xs, k, ρ, h, hs => by
    obtain ⟨ρ1, ρ2, e1, e2, h2⟩ := hs 0 x ρ rfl h
    obtain ⟨ρ', e3, h3⟩ := loop_inv I xs (k + 1) ρ2 h2 (fun i y ρ hy hi => by
      have := hs (i + 1) y ρ (by simpa using hy) (by rw [show k + (i + 1) = k + 1 + i by omega]; exact hi)
      rw [show k + 1 + i + 1 = k + (i + 1) + 1 by omega]
      exact this)
    refine ⟨ρ', ?_, by rw [List.length_cons, show k + (xs.length + 1) = k + 1 + xs.length by omega]; exact h3⟩
    unfold mLoop
    rw [e1]
    rcases e2 with e2 | e2 <;> (simp only [e2, bind_ok]; exact e3)
theorem loop_rng {g : MG} {b : MS} {lo c : Int} {n : Nat} {ρ : Env} (I : Nat → Env → Prop) (h0 : I 0 ρ) (hs : ∀ i ρ, i < n → I i ρ → ∃ ρ1 ρ2, g (.int (lo + (i : Nat) * c)) ρ = some ρ1 ∧ (b ρ1 = .ok (.nx, ρ2) ∨ b ρ1 = .ok (.ct, ρ2)) ∧ I (i + 1) ρ2) :
    ∃ ρ', mLoop g b (rngM lo c n) ρ = .ok (.nx, ρ') ∧ I n ρ' := by
  obtain ⟨ρ', e, h⟩ := loop_inv I (rngM lo c n) 0 ρ h0 fun i x ρ hx hi => by
    have li := lt_get hx
    rw [rngM_len] at li
    rw [rngM_get li] at hx
    cases hx
    have := hs i ρ li (by simpa using hi)
    simpa using this
  rw [rngM_len, Nat.zero_add] at h
  exact ⟨ρ', e, h⟩
theorem loop_nxr {g : MG} {b : MS} {lo c : Int} {n : Nat} {ρ : Env} (I : Nat → Env → Prop) (h0 : I 0 ρ) (hs : ∀ i ρ, i < n → I i ρ → ∃ ρ1, g (.int (lo + (i : Nat) * c)) ρ = some ρ1 ∧ ∃ ρ2, b ρ1 = .ok (.nx, ρ2) ∧ I (i + 1) ρ2) :
    ∃ ρ', mLoop g b (rngM lo c n) ρ = .ok (.nx, ρ') ∧ I n ρ' := by
  refine loop_rng I h0 fun i ρ hi h => ?_
  obtain ⟨ρ1, e, ρ2, e2, h⟩ := hs i ρ hi h
  exact ⟨ρ1, ρ2, e, .inl e2, h⟩
def okD : Nat → MV → Bool
  | _, .non => true
  | _, .bl _ => true
  | _, .int _ => true
  | _, .str x => (PyData.str x).canLay0
  | n + 1, .tup xs => xs.all (okD n)
  | n + 1, .lst xs => xs.all (okD n)
  | _, _ => false
theorem okDs_to {n : Nat} (ih : ∀ x, okD n x = true → ∃ d, toD x = some d ∧ d.canLay0 = true ∧ d.depth ≤ n) : ∀ xs : List MV, xs.all (okD n) = true → ∃ ds, toDs xs = some ds ∧ PyData.canLayAll0 ds = true ∧ PyData.depthAll ds ≤ n
  | [], _ => ⟨[], rfl, by simp [PyData.canLayAll0], by simp [PyData.depthAll]⟩
  | x :: xs, h => by
    simp only [List.all_cons, Bool.and_eq_true] at h
    obtain ⟨d, e, c, p⟩ := ih x h.1
    obtain ⟨ds, es, cs, ps⟩ := okDs_to ih xs h.2
    refine ⟨d :: ds, by simp [toDs, e, es], by simp [PyData.canLayAll0, c, cs], by simp only [PyData.depthAll]; omega⟩
theorem okD_to : ∀ (n : Nat) (x : MV), okD n x = true → ∃ d, toD x = some d ∧ d.canLay0 = true ∧ d.depth ≤ n
  | n, .non, _ => ⟨_, rfl, rfl, by simp [PyData.depth]⟩
  | n, .bl _, _ => ⟨_, rfl, rfl, by simp [PyData.depth]⟩
  | n, .int _, _ => ⟨_, rfl, rfl, by simp [PyData.depth]⟩
  | n, .str x, h => ⟨.str x, rfl, by cases n <;> exact h, by simp [PyData.depth]⟩
  | 0, .tup _, h => by simp [okD] at h
  | 0, .lst _, h => by simp [okD] at h
  | n + 1, .tup xs, h => by
    obtain ⟨ds, e, c, p⟩ := okDs_to (okD_to n) xs h
    exact ⟨.tuple ds, by simp [toD, e], by simpa [PyData.canLay0] using c, by simp only [PyData.depth]; omega⟩
  | n + 1, .lst xs, h => by
    obtain ⟨ds, e, c, p⟩ := okDs_to (okD_to n) xs h
    exact ⟨.list ds, by simp [toD, e], by simpa [PyData.canLay0] using c, by simp only [PyData.depth]; omega⟩
  | n, .own _, h => by cases n <;> simp [okD] at h
  | n, .raw _, h => by cases n <;> simp [okD] at h
  | n, .scr _, h => by cases n <;> simp [okD] at h
  | n, .fnc _, h => by cases n <;> simp [okD] at h
  | n, .obj _ _, h => by cases n <;> simp [okD] at h
  | n, .dct _ _, h => by cases n <;> simp [okD] at h
  | n, .dow _ _, h => by cases n <;> simp [okD] at h
  | n, .dot _ _, h => by cases n <;> simp [okD] at h
theorem eqM_self {n : Nat} {x : MV} (hn : n ≤ 64) (h : okD n x = true) : eqM x x = some true := by
  unfold eqM
  by_cases hs : scalM x x = true
  · rw [if_pos hs]
    cases x <;> simp_all [scalM, sameM]
  · rw [if_neg hs]
    obtain ⟨d, e, c, p⟩ := okD_to n x h
    have hd : SeqAt.shaped d = true := by
      unfold SeqAt.shaped
      rw [c]
      simp
      omega
    rw [e]
    simp only [hd, Bool.and_self, if_true]
    rw [SeqAt.eqv_refl d c]
@[simp] theorem fEq_tt {xs : List MV} (h : xs.all (okD 20) = true) : fEq (.tup xs) (.tup xs) = some (.bl true) := by unfold fEq; rw [eqM_self (n := 21) (by decide) (x := .tup xs) h]; rfl
@[simp] theorem fNe_tt {xs : List MV} (h : xs.all (okD 20) = true) : fNe (.tup xs) (.tup xs) = some (.bl false) := by unfold fNe; rw [eqM_self (n := 21) (by decide) (x := .tup xs) h]; rfl
@[simp] theorem fEq_lle {xs : List MV} (h : xs.all (okD 20) = true) : fEq (.lst xs) (.lst xs) = some (.bl true) := by unfold fEq; rw [eqM_self (n := 21) (by decide) (x := .lst xs) h]; rfl
@[simp] theorem fNe_lle {xs : List MV} (h : xs.all (okD 20) = true) : fNe (.lst xs) (.lst xs) = some (.bl false) := by unfold fNe; rw [eqM_self (n := 21) (by decide) (x := .lst xs) h]; rfl
@[simp] theorem okD_i {n : Nat} {i : Int} : okD n (.int i) = true := by cases n <;> rfl
@[simp] theorem okD_b {n : Nat} {i : Bool} : okD n (.bl i) = true := by cases n <;> rfl
@[simp] theorem okD_n {n : Nat} : okD n .non = true := by cases n <;> rfl
@[simp] theorem fSl_t {xs : List MV} {lo hi : Option Int} : fSl (.tup xs) lo hi = some (.tup (cutM xs lo hi)) := nr rfl
@[simp] theorem fSl_l {xs : List MV} {lo hi : Option Int} : fSl (.lst xs) lo hi = some (.lst (cutM xs lo hi)) := nr rfl
@[simp] theorem cutM_none {xs : List MV} : cutM xs none none = xs := by simp [cutM, HT.sIx]
theorem cutM_to {xs : List MV} {k : Int} (h : 0 ≤ k) : cutM xs none (some k) = xs.take k.toNat := by
  simp [cutM, HT.sIx, show ¬ k < 0 by omega, List.take_eq_take_min]
theorem cutM_from {xs : List MV} {k : Int} (h : 0 ≤ k) : cutM xs (some k) none = xs.drop k.toNat := by
  simp [cutM, HT.sIx, show ¬ k < 0 by omega]
  by_cases e : k.toNat ≤ xs.length
  · rw [Nat.min_eq_left e, List.take_of_length_le (by simp)]
  · rw [Nat.min_eq_right (by omega), List.drop_of_length_le (by omega), List.drop_of_length_le (by omega)]; simp
end Tm
set_option Elab.async false
set_option linter.all false
set_option maxRecDepth 100000
set_option maxHeartbeats 2000000
namespace Tm
open PySem L2
@[simp] theorem mRevA_ap {a : ME} {r : Option MV} {ρ : Env} : mRevA a (r :: ρ) = (a (r :: ρ)).bind fun x ρ1 => match fRevA x with | some z => .ok (z, ρ1) | none => .stuck := nr rfl
@[simp] theorem fRevA_l {a : List MV} : fRevA (.lst a) = some (.lst a.reverse) := nr rfl
@[simp] theorem fRevA_t {a : List MV} : fRevA (.tup a) = some (.tup a.reverse) := nr rfl
theorem mFn_ok {n : Nat} {m : MS} {xs : List MV} {v : MV} (h : ∃ ρ, m (xs.map some ++ List.replicate (n - xs.length) none) = .ok (.rt v, ρ)) : mFn n [] m xs = .ok (v, []) := by
  obtain ⟨ρ, h⟩ := h
  unfold mFn; rw [h]; rfl
theorem fmod_lt' {a b : Int} (h : 0 < b) : a.fmod b < b := Int.fmod_lt_of_pos a h
theorem fmod_ge' {a b : Int} (h : 0 < b) : 0 ≤ a.fmod b := Int.fmod_nonneg_of_pos a h
theorem nat_fmod (a b : Nat) : (a : Int).fmod (b : Int) = ((a % b : Nat) : Int) := by rw [Int.fmod_eq_emod_of_nonneg _ (Int.natCast_nonneg b)]; exact (Int.natCast_emod a b).symm
theorem nat_fdiv (a b : Nat) : (a : Int).fdiv (b : Int) = ((a / b : Nat) : Int) := by rw [Int.fdiv_eq_ediv_of_nonneg _ (Int.natCast_nonneg b)]; exact (Int.natCast_ediv a b).symm
theorem back_wipe : ∀ (vs : List Nat) (ρ ρ' : Env), ρ.length = ρ'.length → (∀ j, j ∉ vs → ρ'[j]? = ρ[j]?) → backM ρ ρ' vs = ρ := by
  have key : ∀ (vs : List Nat) (ρ ρ' : Env) (j : Nat), ρ.length = ρ'.length → (backM ρ ρ' vs)[j]? = if j ∈ vs then ρ[j]? else ρ'[j]? := by
    intro vs
    induction vs with
    | nil => intro ρ ρ' j hl; simp [backM]
    | cons v vs ih =>
      intro ρ ρ' j hl
      show (backM ρ (ρ'.set v ((ρ[v]?).join)) vs)[j]? = _
      rw [ih ρ _ j (by simp [hl])]
      by_cases e : j ∈ vs
      · simp [e]
      · by_cases e2 : j = v
        · subst e2
          by_cases hlt : j < ρ'.length
          · simp [e, List.getElem?_set_self hlt, show j < ρ.length by omega]
          · simp [e, List.getElem?_eq_none (show ρ'.length ≤ j by omega), List.getElem?_eq_none (show ρ.length ≤ j by omega)]
            omega
        · simp [e, e2, List.getElem?_set_ne (Ne.symm e2)]
  intro vs ρ ρ' hl h
  apply List.ext_getElem?
  intro j
  rw [key vs ρ ρ' j hl]
  by_cases e : j ∈ vs
  · simp [e]
  · simp [e, h j e]
theorem wipe_other {ρ ρ' : Env} {vs : List Nat} (hl : ρ.length = ρ'.length) (h : wipeM ρ' vs = wipeM ρ vs) : ∀ j, j ∉ vs → ρ'[j]? = ρ[j]? := by
  intro j hj
  have h1 := wipeM_get ρ vs j
  have h2 := wipeM_get ρ' vs j
  rw [if_neg (by simp [hj])] at h1 h2
  rw [← h1, ← h2, h]
theorem lc_map {g : Tgt} {e : ME} {vs : List Nat} {W : Env} (y : MV → MV) : ∀ (xs acc : List MV) (ρ : Env), (∀ x ∈ xs, ∃ ρ1, setT g x W = some ρ1 ∧ e ρ1 = .ok (y x, ρ1) ∧ wipeM ρ1 vs = W ∧ ρ1.length = W.length) → wipeM ρ vs = W → ρ.length = W.length → acc.length + xs.length ≤ sizeLine →
    ∃ ρ', mLcLoop g mYes e vs xs acc ρ = .ok (acc ++ xs.map y, ρ') ∧ wipeM ρ' vs = W ∧ ρ'.length = W.length
  | [], acc, ρ, _, hw, hl, _ => ⟨ρ, by simp [mLcLoop], hw, hl⟩
  | x :: xs, acc, ρ, h, hw, hl, hz => by
    obtain ⟨ρ1, e1, e2, e3, e4⟩ := h x (List.mem_cons_self ..)
    rw [List.length_cons] at hz
    obtain ⟨ρ', r1, r2, r3⟩ := lc_map (g := g) (e := e) (vs := vs) y xs (acc ++ [y x]) ρ1 (fun z hz => h z (List.mem_cons_of_mem _ hz)) e3 e4 (by rw [List.length_append, List.length_singleton]; omega)
    refine ⟨ρ', ?_, r2, r3⟩
    unfold mLcLoop
    rw [hw, e1]
    simp only [mYes, b0_ok, if_true, e2]
    rw [if_pos ⟨by omega, by rw [e4, hl]⟩, r1]
    simp
theorem mLcO_map {it : MI} {g : Tgt} {e : ME} {vs : List Nat} {ρ ρ1 : Env} {xs : List MV} (y : MV → MV) (hi : it ρ = .ok (xs, ρ1)) (hp : perAt ρ1 vs = true) (hx : ∀ x ∈ xs, ∃ ρ2, setT g x (wipeM ρ1 vs) = some ρ2 ∧ e ρ2 = .ok (y x, ρ2) ∧ wipeM ρ2 vs = wipeM ρ1 vs ∧ ρ2.length = ρ1.length) (hz : xs.length ≤ sizeLine) :
    mLcO it g mYes e vs ρ = .ok (.own (xs.map y), ρ1) := by
  obtain ⟨ρ', r1, r2, r3⟩ := lc_map (g := g) (e := e) (vs := vs) (W := wipeM ρ1 vs) y xs [] ρ1 (fun x h => by
    obtain ⟨ρ2, a, b, c, d⟩ := hx x h
    exact ⟨ρ2, a, b, c, by rw [d, wipeM_len]⟩) rfl (wipeM_len ..).symm (by simpa using hz)
  unfold mLcO
  rw [hi, bind_ok, if_pos hp, r1]
  simp only [b0_ok, List.nil_append]
  rw [back_wipe vs ρ1 ρ' (by rw [r3, wipeM_len]) (wipe_other (by rw [r3, wipeM_len]) r2)]
def digs : Nat → Nat → List Nat
  | 0, _ => []
  | k + 1, n => n % 10 :: digs k (n / 10)
def digsB (k n : Nat) : List Nat := (digs k n).reverse
theorem digs_len : ∀ k n, (digs k n).length = k
  | 0, _ => rfl
  | k + 1, n => by simp [digs, digs_len k]
theorem digsB_len (k n : Nat) : (digsB k n).length = k := by simp [digsB, digs_len]
theorem digs_lt : ∀ k n, ∀ d ∈ digs k n, d < 10
  | 0, _, d, h => by simp [digs] at h
  | k + 1, n, d, h => by
    simp only [digs, List.mem_cons] at h
    rcases h with rfl | h
    · exact Nat.mod_lt _ (by decide)
    · exact digs_lt k _ d h
theorem digsB_lt {k n d : Nat} (h : d ∈ digsB k n) : d < 10 := digs_lt k n d (by simpa [digsB] using h)
theorem digs_append : ∀ (k n : Nat), digs (k + 1) n = digs k n ++ [n / 10 ^ k % 10]
  | 0, n => by simp [digs]
  | k + 1, n => by
    rw [digs, digs_append k (n / 10)]
    show _ = (n % 10 :: digs k (n / 10)) ++ _
    rw [List.cons_append, Nat.div_div_eq_div_mul, Nat.pow_succ, Nat.mul_comm (10 ^ k) 10]
theorem loop_jx {σ β α : Type} {g : MG} {b : MS} (env : σ → β → Env) (item : α → MV) (f : σ → α → σ) (I : Nat → σ → Prop) : ∀ (xs : List α) (k : Nat) (s : σ) (z : β), I k s → (∀ i s z x, x ∈ xs → I i s → i < k + xs.length → (∃ ρ1, g (item x) (env s z) = some ρ1 ∧ ∃ z', b ρ1 = .ok (.nx, env (f s x) z')) ∧ I (i + 1) (f s x)) →
    (∃ z', mLoop g b (xs.map item) (env s z) = .ok (.nx, env (xs.foldl f s) z')) ∧ I (k + xs.length) (xs.foldl f s)
  | [], k, s, z, h, _ => ⟨⟨z, rfl⟩, h⟩
  | x :: xs, k, s, z, h, hs => by
    obtain ⟨⟨ρ1, e1, z', e2⟩, h2⟩ := hs k s z x (List.mem_cons_self ..) h (by simp)
    have := loop_jx (g := g) (b := b) env item f I xs (k + 1) (f s x) z' h2 (fun i s z y hy hi hl => hs i s z y (List.mem_cons_of_mem _ hy) hi (by simp; omega))
    rw [List.map_cons, List.foldl_cons, List.length_cons, show k + (xs.length + 1) = k + 1 + xs.length by omega]
    obtain ⟨⟨z2, e3⟩, h3⟩ := this
    refine ⟨⟨z2, ?_⟩, h3⟩
    unfold mLoop
    rw [e1]
    simp only [e2, bind_ok]
    exact e3
theorem loop_junk {σ β α : Type} {g : MG} {b : MS} (env : σ → β → Env) (item : α → MV) (f : σ → α → σ) (I : Nat → σ → Prop) (xs : List α) (s : σ) (z : β) (h0 : I 0 s)
    (hs : ∀ i s z x, x ∈ xs → I i s → i < xs.length → I (i + 1) (f s x) ∧ ∃ ρ1, g (item x) (env s z) = some ρ1 ∧ ∃ z', b ρ1 = .ok (.nx, env (f s x) z')) :
    (∃ z', mLoop g b (xs.map item) (env s z) = .ok (.nx, env (xs.foldl f s) z')) ∧ I xs.length (xs.foldl f s) := by
  have := loop_jx (g := g) (b := b) env item f I xs 0 s z h0 (fun i s z x hx hi hl => ⟨(hs i s z x hx hi (by simpa using hl)).2, (hs i s z x hx hi (by simpa using hl)).1⟩)
  rw [Nat.zero_add] at this
  exact this
end Tm
set_option Elab.async false
set_option linter.all false
set_option maxRecDepth 100000
set_option maxHeartbeats 2000000
namespace Tm
open PySem L2
section
variable {α β : Type} {ρ : Env} {r : Option MV} {x f g y : Str} {a b : ME}
@[simp] theorem mRaise2_ap : mRaise2 x f g a b (r :: ρ) = (a (r :: ρ)).bind fun y ρ1 => (b ρ1).bind fun z ρ2 => .exc ⟨x, [(g, z), (f, y)]⟩ ρ2 := nr rfl
def tryM (i : Nat) (tab : List (Str × Bool)) (mh : MX → MS) (q : Res (Fl × Env)) : Res (Fl × Env) := match q with
  | .ok r => .ok r
  | .stuck => .stuck
  | .exc e ρ1 => match tab.lookup e.cls with
    | some true => if decide (i < ρ1.length) && e.fs.all (fun p => flatM p.2) then (match mh e (ρ1.set i none) with
      | .ok (.rt v, ρ2) => .ok (.rt v, ρ2)
      | .ok (f, ρ2) => .ok (f, ρ2.set i none)
      | _ => .stuck) else .stuck
    | some false => .exc e ρ1
    | none => .stuck
def endM (i : Nat) (q : Res (Fl × Env)) : Res (Fl × Env) := match q with
  | .ok (.rt v, ρ2) => .ok (.rt v, ρ2)
  | .ok (f, ρ2) => .ok (f, ρ2.set i none)
  | _ => .stuck
variable {i : Nat} {tab : List (Str × Bool)} {mb : MS} {mh : MX → MS} {e : MX} {q : Fl × Env}
@[simp] theorem mTry_ap : mTry i tab mb mh (r :: ρ) = tryM i tab mh (mb (r :: ρ)) := nr rfl
@[simp] theorem tryM_ok : tryM i tab mh (.ok q) = .ok q := nr rfl
@[simp] theorem tryM_exc (h : tab.lookup e.cls = some true) (h2 : i < ρ.length) (h3 : e.fs.all (fun p => flatM p.2) = true) : tryM i tab mh (.exc e ρ) = endM i (mh e (ρ.set i none)) := by
  unfold tryM
  simp only [h, h2, h3, decide_true, Bool.and_self, if_true]
  rfl
@[simp] theorem endM_nx : endM i (.ok (.nx, ρ)) = .ok (.nx, ρ.set i none) := nr rfl
@[simp] theorem endM_br : endM i (.ok (.br, ρ)) = .ok (.br, ρ.set i none) := nr rfl
@[simp] theorem endM_ct : endM i (.ok (.ct, ρ)) = .ok (.ct, ρ.set i none) := nr rfl
@[simp] theorem endM_rt {v : MV} : endM i (.ok (.rt v, ρ)) = .ok (.rt v, ρ) := nr rfl
@[simp] theorem mExF_ap : mExF e f (r :: ρ) = match e.fs.lookup f with | some x => .ok (x, r :: ρ) | none => .stuck := nr rfl
theorem mFn_exc {n : Nat} {m : MS} {xs : List MV} {e : MX} (h : ∃ ρ, m (xs.map some ++ List.replicate (n - xs.length) none) = .exc e ρ) : mFn n [] m xs = .exc e [] := by
  obtain ⟨ρ, h⟩ := h
  unfold mFn; rw [h]; rfl
end
section
variable {i : Int} {b b' : Bool} {x y : Str}
@[simp] theorem fEq_nn : fEq .non .non = some (.bl true) := nr rfl
@[simp] theorem fNe_nn : fNe .non .non = some (.bl false) := nr rfl
@[simp] theorem fEq_ni : fEq .non (.int i) = some (.bl false) := nr rfl
@[simp] theorem fEq_in : fEq (.int i) .non = some (.bl false) := nr rfl
@[simp] theorem fNe_ni : fNe .non (.int i) = some (.bl true) := nr rfl
@[simp] theorem fNe_in : fNe (.int i) .non = some (.bl true) := nr rfl
@[simp] theorem fEq_ns : fEq .non (.str x) = some (.bl false) := nr rfl
@[simp] theorem fEq_sn : fEq (.str x) .non = some (.bl false) := nr rfl
@[simp] theorem fNe_ns : fNe .non (.str x) = some (.bl true) := nr rfl
@[simp] theorem fNe_sn : fNe (.str x) .non = some (.bl true) := nr rfl
@[simp] theorem fEq_bb : fEq (.bl b) (.bl b') = some (.bl (decide (b = b'))) := nr rfl
@[simp] theorem fNe_bb : fNe (.bl b) (.bl b') = some (.bl (!decide (b = b'))) := nr rfl
@[simp] theorem fEq_is : fEq (.int i) (.str x) = some (.bl false) := nr rfl
@[simp] theorem fEq_si : fEq (.str x) (.int i) = some (.bl false) := nr rfl
@[simp] theorem fIsN_n : fIsN .non .non = some (.bl true) := nr rfl
@[simp] theorem fIsN_i : fIsN (.int i) .non = some (.bl false) := nr rfl
@[simp] theorem fIsN_s : fIsN (.str x) .non = some (.bl false) := nr rfl
@[simp] theorem fIsN_t {xs : List MV} : fIsN (.tup xs) .non = some (.bl false) := nr rfl
@[simp] theorem fIsN_b : fIsN (.bl b) .non = some (.bl false) := nr rfl
@[simp] theorem fNotN_n : fNotN .non .non = some (.bl false) := nr rfl
@[simp] theorem fNotN_i : fNotN (.int i) .non = some (.bl true) := nr rfl
@[simp] theorem fNotN_s : fNotN (.str x) .non = some (.bl true) := nr rfl
@[simp] theorem fNotN_t {xs : List MV} : fNotN (.tup xs) .non = some (.bl true) := nr rfl
@[simp] theorem fNotN_b : fNotN (.bl b) .non = some (.bl true) := nr rfl
end
def tOk (x : Str) : Prop := (PyData.str x).canLay0 = true
@[simp] theorem fIx_s {z : Str} {i : Int} : fIx (.str z) (.int i) = if szOk z.length then (atI z.cps.toList i).map fun c => MV.str ⟨#[c]⟩ else none := nr rfl
@[simp] theorem fSl_s {z : Str} {lo hi : Option Int} : fSl (.str z) lo hi = if szOk z.length then some (.str (cutS z lo hi)) else none := nr rfl
@[simp] theorem bLen_s {z : Str} : bLen [.str z] = if szOk z.length then some (.int z.length) else none := nr rfl
theorem fMul_l {a : List MV} {k : Int} (h : 0 ≤ k) (h2 : k < 2 ^ 63) (h3 : szOk (a.length * k.toNat) = true) : fMul (.lst a) (.int k) = some (.lst (List.replicate k.toNat a).flatten) := by
  show (if (decide (-(2 ^ 63) ≤ k) && decide (k < 2 ^ 63) && szOk (a.length * k.toNat)) = true then some (MV.lst (List.replicate k.toNat a).flatten) else none) = _
  rw [if_pos]
  simp only [h2, h3, decide_true, Bool.and_true, decide_eq_true_eq]
  omega
theorem rep_one {α : Type} (x : α) (k : Nat) : (List.replicate k [x]).flatten = List.replicate k x := by
  induction k with
  | zero => rfl
  | succ k ih => rw [List.replicate_succ, List.flatten_cons, ih]; rfl
theorem fMul_1 {x : MV} {k : Nat} (h : k < 1000000) : fMul (.lst [x]) (.int (k : Nat)) = some (.lst (List.replicate k x)) := by
  rw [fMul_l (by omega) (by omega) (szOk_small (by simp; omega))]
  show some (MV.lst (List.replicate k [x]).flatten) = _
  rw [rep_one]
@[simp] theorem fMul_10 {x : MV} : fMul (.lst [x]) (.int 0) = some (.lst []) := fMul_1 (k := 0) (by decide)
@[simp] theorem fMul_11 {x : MV} : fMul (.lst [x]) (.int 1) = some (.lst [x]) := fMul_1 (k := 1) (by decide)
@[simp] theorem mOpO_ap {f : MV → MV → Option (List MV)} {a b : ME} {r : Option MV} {ρ : Env} : mOpO f a b (r :: ρ) = (a (r :: ρ)).bind fun x ρ1 => (b ρ1).bind fun y ρ2 => match f x y with | some zs => .ok (.own zs, ρ2) | none => .stuck := nr rfl
theorem fMultL_l {a : List MV} {k : Int} (h : 0 ≤ k) (h2 : k < 2 ^ 63) (h3 : szOk (a.length * k.toNat) = true) : fMultL (.lst a) (.int k) = some (List.replicate k.toNat a).flatten := by
  show (if (decide (-(2 ^ 63) ≤ k) && decide (k < 2 ^ 63) && szOk (a.length * k.toNat)) = true then some (List.replicate k.toNat a).flatten else none) = _
  rw [if_pos]
  simp only [h2, h3, decide_true, Bool.and_true, decide_eq_true_eq]
  omega
theorem fMultL_1 {x : MV} {k : Nat} (h : k < 1000000) : fMultL (.lst [x]) (.int (k : Nat)) = some (List.replicate k x) := by
  rw [fMultL_l (by omega) (by omega) (szOk_small (by simp; omega))]
  show some (List.replicate k [x]).flatten = _
  rw [rep_one]
@[simp] theorem fAddL_ll {a b : List MV} : fAddL (.lst a) (.lst b) = if szOk (a.length + b.length) then some (a ++ b) else none := nr rfl
end Tm
set_option Elab.async false
set_option linter.all false
set_option maxRecDepth 100000
set_option maxHeartbeats 2000000
namespace Tm
open PySem L2
theorem lc_filt {g : Tgt} {t : MT} {e : ME} {vs : List Nat} {W : Env} (p : MV → Bool) (y : MV → MV) : ∀ (xs acc : List MV) (ρ : Env), (∀ x ∈ xs, ∃ ρ1, setT g x W = some ρ1 ∧ t ρ1 = .ok (p x, ρ1) ∧ (p x = true → e ρ1 = .ok (y x, ρ1)) ∧ wipeM ρ1 vs = W ∧ ρ1.length = W.length) → wipeM ρ vs = W → ρ.length = W.length → acc.length + xs.length ≤ sizeLine →
    ∃ ρ', mLcLoop g t e vs xs acc ρ = .ok (acc ++ (xs.filter p).map y, ρ') ∧ wipeM ρ' vs = W ∧ ρ'.length = W.length
  | [], acc, ρ, _, hw, hl, _ => ⟨ρ, by simp [mLcLoop], hw, hl⟩
  | x :: xs, acc, ρ, h, hw, hl, hz => by
    obtain ⟨ρ1, e1, et, e2, e3, e4⟩ := h x (List.mem_cons_self ..)
    rw [List.length_cons] at hz
    cases hp : p x with
    | true =>
      obtain ⟨ρ', r1, r2, r3⟩ := lc_filt (g := g) (t := t) (e := e) (vs := vs) p y xs (acc ++ [y x]) ρ1 (fun z hz => h z (List.mem_cons_of_mem _ hz)) e3 e4 (by rw [List.length_append, List.length_singleton]; omega)
      refine ⟨ρ', ?_, r2, r3⟩
      unfold mLcLoop
      rw [hw, e1]
      simp only [et, hp, b0_ok, if_true, e2 hp]
      rw [if_pos ⟨by omega, by rw [e4, hl]⟩, r1, List.filter_cons_of_pos hp]
      simp
    | false =>
      obtain ⟨ρ', r1, r2, r3⟩ := lc_filt (g := g) (t := t) (e := e) (vs := vs) p y xs acc ρ1 (fun z hz => h z (List.mem_cons_of_mem _ hz)) e3 e4 (by omega)
      refine ⟨ρ', ?_, r2, r3⟩
      unfold mLcLoop
      rw [hw, e1]
      simp only [et, hp, b0_ok, Bool.false_eq_true, if_false]
      rw [if_pos (by rw [e4, hl]), r1, List.filter_cons_of_neg (by simp [hp])]
theorem mLcO_filt {it : MI} {g : Tgt} {t : MT} {e : ME} {vs : List Nat} {ρ ρ1 : Env} {xs : List MV} (p : MV → Bool) (y : MV → MV) (hi : it ρ = .ok (xs, ρ1)) (hp : perAt ρ1 vs = true) (hx : ∀ x ∈ xs, ∃ ρ2, setT g x (wipeM ρ1 vs) = some ρ2 ∧ t ρ2 = .ok (p x, ρ2) ∧ (p x = true → e ρ2 = .ok (y x, ρ2)) ∧ wipeM ρ2 vs = wipeM ρ1 vs ∧ ρ2.length = ρ1.length) (hz : xs.length ≤ sizeLine) :
    mLcO it g t e vs ρ = .ok (.own ((xs.filter p).map y), ρ1) := by
  obtain ⟨ρ', r1, r2, r3⟩ := lc_filt (g := g) (t := t) (e := e) (vs := vs) (W := wipeM ρ1 vs) p y xs [] ρ1 (fun x h => by
    obtain ⟨ρ2, a, b, c, d, f⟩ := hx x h
    exact ⟨ρ2, a, b, c, d, by rw [f, wipeM_len]⟩) rfl (wipeM_len ..).symm (by simpa using hz)
  unfold mLcO
  rw [hi, bind_ok, if_pos hp, r1]
  simp only [b0_ok, List.nil_append]
  rw [back_wipe vs ρ1 ρ' (by rw [r3, wipeM_len]) (wipe_other (by rw [r3, wipeM_len]) r2)]
theorem set_none {ρ : Env} {v : Nat} (hv : ρ[v]? = some none) : ρ.set v none = ρ := by
  apply List.ext_getElem?
  intro j
  by_cases e : v = j
  · subst e; rw [List.getElem?_set_self (lt_get hv), hv]
  · rw [List.getElem?_set_ne e]
theorem mLcO_nmf {it : MI} {t : MT} {e : ME} {v : Nat} {ρ : Env} {xs : List MV} (p : MV → Bool) (y : MV → MV) (hi : it ρ = .ok (xs, ρ)) (hv : ρ[v]? = some none) (ht : ∀ x ∈ xs, t (ρ.set v (some x)) = .ok (p x, ρ.set v (some x))) (he : ∀ x ∈ xs, p x = true → e (ρ.set v (some x)) = .ok (y x, ρ.set v (some x))) (hz : xs.length ≤ sizeLine) :
    mLcO it (.nm v) t e [v] ρ = .ok (.own ((xs.filter p).map y), ρ) := by
  have lv := lt_get hv
  have w : wipeM ρ [v] = ρ := set_none hv
  refine mLcO_filt p y hi (by simp [perAt, hv]) (fun x hx => ?_) hz
  rw [w]
  refine ⟨ρ.set v (some x), by simp [setT, lv], ht x hx, he x hx, ?_, by simp⟩
  show (ρ.set v (some x)).set v none = ρ
  rw [List.set_set]
  exact w
theorem mLcO_nm {it : MI} {e : ME} {v : Nat} {ρ : Env} {xs : List MV} (y : MV → MV) (hi : it ρ = .ok (xs, ρ)) (hv : ρ[v]? = some none) (he : ∀ x ∈ xs, e (ρ.set v (some x)) = .ok (y x, ρ.set v (some x))) (hz : xs.length ≤ sizeLine) :
    mLcO it (.nm v) mYes e [v] ρ = .ok (.own (xs.map y), ρ) := by
  have := mLcO_nmf (t := mYes) (fun _ => true) y hi hv (fun _ _ => rfl) (fun x hx _ => he x hx) hz
  rwa [List.filter_eq_self.mpr (fun _ _ => rfl)] at this
section
variable {α β : Type} {a b : ME} {m : MA} {ρ : Env} {r : Option MV}
@[simp] theorem mLx_ap {f : List MV → List MV → Option MV} : mLx f a m (r :: ρ) = (a (r :: ρ)).bind fun x ρ1 => match x with
  | .lst xs => (m ρ1).bind fun ys ρ2 => (match f xs ys with | some w => .ok (w, ρ2) | none => .stuck)
  | _ => .stuck := nr rfl
end
theorem strsOf_map : ∀ ss : List Str, strsOf (ss.map MV.str) = some ss
  | [] => rfl
  | s :: ss => by
    show (match strsOf (ss.map MV.str) with | some l => some (s :: l) | none => none) = _
    rw [strsOf_map ss]
theorem lxIndex_map {ss : List Str} {b : Str} {j : Nat} (h : ss.findIdx? (fun s => decide (s = b)) = some j) : lxIndex (ss.map MV.str) [.str b] = some (.int j) := by
  show (match strsOf (ss.map MV.str) with
    | some ss => (match ss.findIdx? (fun s => decide (s = b)) with | some j => some (MV.int (j : Nat)) | none => none)
    | none => none) = _
  rw [strsOf_map]
  simp only [h]
@[simp] theorem mLenV_ap : mLenV i (r :: ρ) = match lenV (r :: ρ) i with | some z => .ok (z, r :: ρ) | none => .stuck := nr rfl
@[simp] theorem lenV_get {ρ : Env} : lenV ρ i = match ρ[i]? with | some (some (.own xs)) => some (.int xs.length) | some (some x) => bLen [x] | _ => none := nr rfl
@[simp] theorem mSlV_ap {l h : MP} : mSlV i l h (r :: ρ) = if has (r :: ρ) i then (l (r :: ρ)).bind fun a ρ1 => (h ρ1).bind fun b ρ2 => match slV ρ2 i a b with | some zs => .ok (.lst zs, ρ2) | none => .stuck else .stuck := nr rfl
@[simp] theorem fMul_s {a : Str} {k : Int} : fMul (.str a) (.int k) = if decide (-(2 ^ 63) ≤ k) && decide (k < 2 ^ 63) && szOk (a.length * k.toNat) then some (.str (repS a k)) else none := nr rfl
theorem fMul_tup {a : List MV} {k : Int} : fMul (.tup a) (.int k) = if (decide (-(2 ^ 63) ≤ k) && decide (k < 2 ^ 63) && (decide (k = 1) || a.isEmpty || (decide (2 ≤ k) && decide (k ≤ 1000) && decide (a.length ≤ 1000)))) = true then some (.tup (List.replicate k.toNat a).flatten) else none := rfl
@[simp] theorem fMul_t1 {a : List MV} : fMul (.tup a) (.int 1) = some (.tup a) := by
  rw [fMul_tup, if_pos (by simp)]
  simp
end Tm
set_option Elab.async false
set_option linter.all false
set_option maxRecDepth 100000
set_option maxHeartbeats 2000000
namespace Tm
open PySem L2
section
variable {ρ : Env} {r : Option MV}
@[simp] theorem cbE_ap {f : MF} {args : List BA} : cbE f args (r :: ρ) = match fill args (r :: ρ) with
  | some xs => (match f xs with | .ok (v, os) => .ok (v, back (r :: ρ) (idxB args) os) | .exc e os => .exc e (back (r :: ρ) (idxB args) os) | .stuck => .stuck)
  | none => .stuck := nr rfl
@[simp] theorem fill_nil {ρ : Env} : fill [] ρ = some [] := nr rfl
@[simp] theorem fill_v {ρ : Env} {x : MV} {s : List BA} : fill (.v x :: s) ρ = match fill s ρ with | some xs => some (x :: xs) | none => none := nr rfl
@[simp] theorem fill_b {ρ : Env} {i : Nat} {s : List BA} : fill (.b i :: s) ρ = match ρ[i]?, fill s ρ with | some (some x), some xs => if x.held then some (x :: xs) else none | _, _ => none := nr rfl
@[simp] theorem idxB_nil : idxB [] = [] := nr rfl
@[simp] theorem idxB_v {x : MV} {s : List BA} : idxB (.v x :: s) = idxB s := nr rfl
@[simp] theorem idxB_b {i : Nat} {s : List BA} : idxB (.b i :: s) = i :: idxB s := nr rfl
@[simp] theorem back_nil {ρ os : Env} : back ρ [] os = ρ := nr rfl
@[simp] theorem back_cons {ρ os : Env} {i : Nat} {is : List Nat} {o : Option MV} : back ρ (i :: is) (o :: os) = back (ρ.set i o) is os := nr rfl
@[simp] theorem held_own {xs : List MV} : (MV.own xs).held = true := nr rfl
@[simp] theorem held_obj {C : Str} {fs : List (Str × MV)} : (MV.obj C fs).held = true := nr rfl
end
theorem char_list_inj : ∀ {a b : List Char}, a.map Char.toNat = b.map Char.toNat → a = b
  | [], [], _ => rfl
  | [], _ :: _, h => by simp at h
  | _ :: _, [], h => by simp at h
  | c :: a, d :: b, h => by
    simp only [List.map_cons, List.cons.injEq] at h
    have e : c = d := by rw [← Char.ofNat_toNat c, ← Char.ofNat_toNat d, h.1]
    rw [e, char_list_inj h.2]
@[simp] theorem str_inj {a b : String} : (Str.ofString a = Str.ofString b) = (a = b) := by
  refine propext ⟨fun h => ?_, fun h => by rw [h]⟩
  rw [Str.ofString_eq_toList, Str.ofString_eq_toList] at h
  have h2 := congrArg (fun z : Str => z.cps.toList) h
  simp only at h2
  exact String.toList_inj.mp (char_list_inj h2)
end Tm
set_option Elab.async false
set_option linter.all false
set_option maxRecDepth 100000
set_option maxHeartbeats 2000000
namespace Tm
open PySem L2 PySem.Spec PyProof.Rows HotX
def HotS (X : Cx) : Prop := ∀ (pins : List (Addr × Obj)) (σ : L2.St) (H : Hp) (s : Shared), Inv X pins σ H s → ∃ x1, HotAt X.A x1 s.heap
structure TurnS (P : Program) (w : World) (K : PySem.W.Frag) (tg : Expr) (J : It) (it : Addr) (tn : Nat → Heap → Prop) : Prop where
  obj : ∀ i h, tn i h → ∃ o, h.get? it = some o ∧ ∀ v, o.data ≠ .cell v
  keep : ∀ i h h', tn i h → (∀ o, h.get? it = some o → h'.get? it = some o) → tn i h'
  item : ∀ (X : Cx), X.prog = P → X.w = w → X.K = K → ∀ (i : Nat) (pins : List (Addr × Obj)) (s : Shared) (σ : L2.St) (H : Hp) (E : Value → Shared → Prop), Inv X pins σ H s → FpOk X pins H it → tn i s.heap → J.go i H →
    wpAny (model P w) X.A (pyNext (.ref it)) (fun r s1 => ∃ u, r = some u ∧ wpAny (model P w) X.A (letOwnedTupleGo tg (.ref it) u) (fun _ s2 => ∃ x H', Inv X pins σ H' s2 ∧ RelV x u ∧ J.yld i H x H' ∧ tn (i + 1) s2.heap ∧ H' it = none) E s1) E s
  done : ∀ (X : Cx), X.prog = P → X.w = w → X.K = K → HotS X → ∀ (i : Nat) (pins : List (Addr × Obj)) (s : Shared) (σ : L2.St) (H : Hp) (E : Value → Shared → Prop), Inv X pins σ H s → FpOk X pins H it → tn i s.heap → J.stop i H →
    wpAny (model P w) X.A (pyNext (.ref it)) (fun r s1 => r = none ∧ Inv X pins σ H s1) E s
  self : ∀ (A : Around) (i : Nat) (s : Shared) (Q : Value → Shared → Prop) (E : Value → Shared → Prop), tn i s.heap → Q (.ref it) s → wpAny (model P w) A (pyIter (.ref it)) Q E s
structure PIS (X : Cx) (tg iter : Expr) (wi : TI) : Prop where
  run : ∀ (pins : List (Addr × Obj)) (s : Shared) (σ : L2.St) (H : Hp) (R : It → Hp → Prop), Inv X pins σ H s → wi σ H R →
    wpAny (model X.prog X.w) X.A (eval iter X.env) (fun v s1 => wpAny (model X.prog X.w) X.A (pyIter v) (fun u s2 => ∃ (it : Addr) (tn : Nat → Heap → Prop) (J : It) (H' : Hp), u = .ref it ∧ Inv X pins σ H' s2 ∧ TurnS X.prog X.w X.K tg J it tn ∧ tn 0 s2.heap ∧ FpOk X pins H' it ∧ R J H') X.xe s1) X.xe s
end Tm
set_option Elab.async false
set_option linter.all false
set_option maxRecDepth 100000
set_option maxHeartbeats 2000000
namespace Tm
open PySem L2 PySem.Spec PyProof.Rows
open Evl (Ex ex_rd ex_l ex_t)
structure FnE (P : Program) (w : World) (K : PySem.W.Frag) (mg : Str → Option Value) (base : Heap) (CX : CXT) (k : Nat) (f : Addr) (fd : FuncData) (ps : List Str) (sp : Addr × Obj → Sp) : Prop where
  len : ∀ p vs H Q E, sp p vs H Q E → vs.length = ps.length
  run : ∀ (A : Around) (outer : List PySem.Env) (s : Shared) (H : Hp) (args : Args) (us : List Value) (vs : List V) (Q : VK) (E : XK) (p : Addr × Obj), L2H.RoomH k A → L2H.Hot1 A p → L2H.PinOk outer H s p → Env0 P w K mg base A outer s H → BindsTo s fd args (ps.zip us) → Vals vs us → sp p vs H Q E →
    codeAny (model P w) A (.call (.ref f) args) (CR CX outer P w H s Q E) s
def spE (K : PySem.W.Frag) (mg : Str → Option Value) (ts : List Str) (f : MX → Res (MV × Env)) : Addr × Obj → Sp := fun p vs H Q _ => vs = [.ref p.1] ∧ ∃ (F Hk : Hp) (e : MX) (C : Addr) (d : Option Addr) (v : MV) (ρ' : Env), Ex Hk H ∧ Ex F H ∧ (∀ a o, F a = some o → Hk a = none) ∧
  mg e.cls = some (.ref C) ∧ e.cls ∈ ts ∧ L2N.Zn (.ref C) d p.2 ∧ (∃ vs, p.2.data = .fields vs) ∧ XIn F e d ∧ f e = .ok (v, ρ') ∧ flatM v = true ∧ ∀ Hk' H' u, Ex Hk Hk' → Ex Hk' H' → Ex F H' → (∀ a o, F a = some o → Hk' a = none) → RV K Hk' v u → Q u H'
structure FdE (P : Program) (w : World) (K : PySem.W.Frag) (mg : Str → Option Value) (base : Heap) (x : Str) (k : Nat) (q : Str) (ts : List Str) (f : MX → Res (MV × Env)) : Prop where
  ex : ∃ (a : Addr) (fd : FuncData), FnE P w K mg base (L2N.CX P w) k a fd [q] (spE K mg ts f) ∧ mg x = some (.ref a) ∧ PySem.W.keepIn K (.ref a) = true ∧ Binds K fd [q] []
structure KiB (K : PySem.W.Frag) (mg : Str → Option Value) (T : String) (x : Str) : Prop where
  ex : ∃ C, mg x = some (.ref C) ∧ PySem.W.kitOne K (.ref C) (.type T) = some true
end Tm
set_option Elab.async false
set_option linter.all false
set_option maxRecDepth 100000
set_option maxHeartbeats 2000000
namespace Tm
open PySem L2 PySem.Spec PyProof.Rows
open Evl (Ex ex_rd ex_l ex_t)
inductive HdE (X : Cx) (n : Str) : List ExceptHandler → List (Value × (Addr → Value → Option Addr → TS)) → Prop
  | nil : HdE X n [] []
  | cons {y : Str} {c : Value} {ts : Addr → Value → Option Addr → TS} {b₀ : Stmt} {suite : List Stmt} {np p : Pos} {hds : List ExceptHandler} {l : List (Value × (Addr → Value → Option Addr → TS))} (hc : Names X y c)
      (hsu : ∀ (a : Addr) (oe : Obj) (cls : Value) (d : Option Addr) (pn : List (Addr × Obj)), L2N.Zn cls d oe → (∃ vs, oe.data = .fields vs) → PSs (X.suite a ((a, oe) :: pn)) (b₀ :: suite) (ts a cls d)) (r : HdE X n hds l) :
      HdE X n (.ExceptHandler (some (.Name y np)) (some n) (b₀ :: suite) p :: hds) ((c, ts) :: l)
inductive HdM (X : Cx) (c : Ct) (i : Nat) (n : Str) : List ExceptHandler → List (List (Str × Bool) × (MX → MS)) → Prop
  | nil : HdM X c i n [] []
  | cons {y : Str} {b₀ : Stmt} {suite : List Stmt} {np p : Pos} {hds : List ExceptHandler} {tab : List (Str × Bool)} {mh : MX → MS} {l : List (List (Str × Bool) × (MX → MS))} (hg : Gl X y) (ht : ∀ p ∈ tab, ExT X.K X.mg y p.1 p.2) (hne : ∃ D, X.mg y = some (.ref D))
      (hsu : ∀ (a : Addr) (oe : Obj) (C : Addr) (d : Option Addr) (pn : List (Addr × Obj)) (e : MX), X.mg e.cls = some (.ref C) → (e.cls, true) ∈ tab → L2N.Zn (.ref C) d oe → (∃ vs, oe.data = .fields vs) → PSs (X.suite a ((a, oe) :: pn)) (b₀ :: suite) (rdS (cH c i a e d) (mh e)))
      (hdb : (y == ("__debug__" : Str)) = false) (r : HdM X c i n hds l) :
      HdM X c i n (.ExceptHandler (some (.Name y np)) (some n) (b₀ :: suite) p :: hds) ((tab, mh) :: l)
end Tm
set_option Elab.async false
set_option linter.all false
set_option maxRecDepth 100000
set_option maxHeartbeats 2000000
namespace Tm
open PySem L2 PySem.Spec PyProof.Rows
open Evl (Ex ex_rd ex_l ex_t)
def dctAt (ks : List Key) (xs : List MV) (k : Key) : Option MV := ((ks.zip xs).find? fun p => decide (p.1 = k)).map (·.2)
theorem dctAt_rv {K : PySem.W.Frag} {H : Hp} : ∀ {ks : List Key} {xs : List MV} {vs : List V} (k : Key), RVs K H xs vs → (∀ x, dctAt ks xs k = some x → ∃ v, valV (ks.zip vs) k = some v ∧ RV K H x v) ∧ (dctAt ks xs k = none → valV (ks.zip vs) k = none)
  | [], xs, vs, k, _ => ⟨fun x h => by simp [dctAt] at h, fun _ => by simp [valV]⟩
  | a :: ks, [], vs, k, r => by
    rw [RVs.nil.mp r]
    exact ⟨fun x h => by simp [dctAt] at h, fun _ => by simp [valV]⟩
  | a :: ks, x :: xs, vs, k, r => by
    obtain ⟨v, us, rfl, r1, r2⟩ := RVs.cons.mp r
    obtain ⟨i1, i2⟩ := dctAt_rv (ks := ks) k r2
    unfold dctAt at *
    rw [List.zip_cons_cons, List.zip_cons_cons, List.find?_cons]
    by_cases e : a = k
    · rw [valV_pos (p := (a, v)) e]
      simp only [e, decide_true]
      exact ⟨fun y h => by simp at h; subst h; exact ⟨v, rfl, r1⟩, fun h => by simp at h⟩
    · rw [valV_neg (p := (a, v)) e]
      simp only [e, decide_false]
      exact ⟨i1, i2⟩
def keyM : MV → Option Key
  | .int i => some (.inl i)
  | .str z => some (.inr z)
  | _ => none
theorem keyM_rv {K : PySem.W.Frag} {H : Hp} {x : MV} {k : Key} {v : V} (e : keyM x = some k) (r : RV K H x v) : v = kV k := by
  unfold keyM at e
  split at e
  · cases e; exact RV.int.mp r
  · cases e; exact RV.str.mp r
  · cases e
def fDix (x y : MV) : Option MV := match x, keyM y with
  | .dct ks xs, some k => dctAt ks xs k
  | _, _ => none
theorem os_dix {K : PySem.W.Frag} : OpS K fDix (fun x y H Q => ∃ a v, x = .ref a ∧ DGet H a y (some v) ∧ Q v H) := by
  intro x y z v w Hk H Q e ex r1 r2 q qn
  unfold fDix at e
  split at e
  · rename_i ks xs k ek
    obtain ⟨a, vs, rfl, h1, h2, h3⟩ := RV.dct.mp r1
    have := keyM_rv ek r2
    subst this
    obtain ⟨u, e1, e2⟩ := (dctAt_rv (ks := ks) k h3).1 z e
    refine ⟨a, u, rfl, ?_, q u e2⟩
    rw [← e1]
    exact DGet.k (ex _ _ h1)
  · cases e
section
variable {X : Cx} {c : Ct} {pos apos cpos : Pos} {k : Nat}
theorem me_dix {a b : Expr} {ma mb : ME} (hr : X.A.units + 64 < cLine) (ha : PE X a (rdE c ma)) (hb : PE X b (rdE c mb)) (hs : NoSl b := by exact fun _ _ => rfl) : PE X (.Subscript a b pos) (rdE c (mOp fDix ma mb)) :=
  PEw (pe_dget (by omega) ha hb hs) fun _ _ _ q => rd_op os_dix q
end
section
variable {K : PySem.W.Frag} {F Hk H : Hp} {bp : List (Nat × Addr)} {σ : L2.St} {ρ : Env}
theorem RS.frame (S : RS K F Hk H bp σ ρ) {p : Addr} (o : HO) (h : H p = none) : RS K (upd F p o) Hk (upd H p o) bp σ ρ := by
  obtain ⟨ow, s⟩ := S.ow
  have np : ∀ i a, a ∈ ow i → a ≠ p := fun i a ha z => s.fresh h i (by rw [← z]; exact ha)
  have s2 : SL K F Hk (upd H p o) ow σ ρ := s.step (Ex.refl _) fun i a ha => ⟨upd_ne (np i a ha), (s.f i a ha).1⟩
  have hk : Hk p = none := S.ex.back h
  refine ⟨S.len, S.ex.mut hk, fun a u q => ?_, fun a u q => ?_, ⟨ow, s2.s, fun i a q => ⟨(s2.f i a q).1, by rw [upd_ne (np i a q)]; exact (s2.f i a q).2.1, (s2.f i a q).2.2⟩, s2.w, s2.d⟩, S.bor⟩
  · by_cases e : a = p
    · subst e; rw [upd_same] at q ⊢; exact q
    · rw [upd_ne e] at q ⊢; exact S.fr a u q
  · by_cases e : a = p
    · subst e; exact hk
    · rw [upd_ne e] at q; exact S.frk a u q
theorem RS.unframe {p : Addr} {o : HO} (S : RS K (upd F p o) Hk H bp σ ρ) (hF : F p = none) : RS K F Hk H bp σ ρ := by
  have ne : ∀ a u, F a = some u → a ≠ p := fun a u q z => by subst z; rw [hF] at q; cases q
  obtain ⟨ow, s⟩ := S.ow
  refine ⟨S.len, S.ex, fun a u q => S.fr a u (by rw [upd_ne (ne a u q)]; exact q), fun a u q => S.frk a u (by rw [upd_ne (ne a u q)]; exact q), ⟨ow, s.s, fun i a q => ⟨(s.f i a q).1, ?_, (s.f i a q).2.2⟩, s.w, s.d⟩, S.bor⟩
  have z := (s.f i a q).2.1
  by_cases e : a = p
  · subst e; rw [upd_same] at z; cases z
  · rw [upd_ne e] at z; exact z
theorem RS.landD {p : Addr} {o : HO} (S : RS K (upd F p o) Hk H bp σ ρ) (hF : F p = none) (o2 : HO) : RS K F (upd Hk p o2) (upd H p o2) bp σ ρ := by
  have ne : ∀ a u, F a = some u → a ≠ p := fun a u q z => by subst z; rw [hF] at q; cases q
  have hk : Hk p = none := S.frk p o upd_same
  have S2 := S.unframe hF
  obtain ⟨ow0, s0⟩ := S.ow
  have np : ∀ i a, a ∈ ow0 i → a ≠ p := fun i a ha z => by
    have := (s0.f i a ha).2.1
    subst z
    rw [upd_same] at this; cases this
  have s1 : SL K F Hk H ow0 σ ρ := by
    refine ⟨s0.s, fun i a q => ⟨(s0.f i a q).1, ?_, (s0.f i a q).2.2⟩, s0.w, s0.d⟩
    have z := (s0.f i a q).2.1
    rw [upd_ne (np i a q)] at z; exact z
  refine ⟨S.len, fun a u q => ?_, fun a u q => ?_, fun a u q => ?_, ⟨ow0, s1.step (Ex.new hk) fun i a ha => ⟨upd_ne (np i a ha), by rw [upd_ne (np i a ha)]; exact (s1.f i a ha).1⟩⟩, S.bor⟩
  · by_cases e : a = p
    · subst e; rw [upd_same] at q ⊢; exact q
    · rw [upd_ne e] at q ⊢; exact S.ex a u q
  · rw [upd_ne (ne a u q)]; exact S2.fr a u q
  · rw [upd_ne (ne a u q)]; exact S2.frk a u q
end
structure DPs (X : Cx) (c : Ct) (pos : Pos) (keys : List (Option Expr)) (values : List Expr) (ks : List Key) (m : MA) : Prop where
  ex : ∃ trs, PPs X pos keys values trs ∧ ∀ (σ : L2.St) (H : Hp) (Q : List (V × V) → Hp → Prop), rdA c m σ H (fun vs H' => Q ((ks.map kV).zip vs) H') → tPairs trs σ H Q
section
variable {X : Cx} {c : Ct} {pos p1 p2 : Pos} {keys : List (Option Expr)} {values : List Expr} {ks : List Key} {m : MA} {v : Expr} {a : ME}
theorem dp_nil : DPs X c pos [] [] [] mNil := ⟨[], pps_nil, fun σ H Q h => by
  obtain ⟨F, Hk, bp, ρ, S, h⟩ := h
  exact h _ _ _ (Ex.refl _) S.1 (RVs.nil.mpr rfl)⟩
theorem dp_cons {kx : Expr} {k : Key} (hk : PE X kx (tC (kV k))) (hv : PE X v (rdE c a)) (r : DPs X c pos keys values ks m) : DPs X c pos (some kx :: keys) (v :: values) (k :: ks) (mCons a m) := by
  obtain ⟨trs, e1, e2⟩ := r.ex
  refine ⟨(tC (kV k), rdE c a) :: trs, pps_cons hk hv e1, fun σ H Q h => ?_⟩
  obtain ⟨F, Hk, bp, ρ, S, h⟩ := h
  show rdE c a σ H fun y H2 => tPairs trs σ H2 fun ps H3 => Q ((kV k, y) :: ps) H3
  refine rdw (bE postA S h) fun v H1 ⟨Hk1, x, ρ1, x1, S1, r1, h1⟩ => e2 _ _ _ ?_
  refine rdAw (bA postA S1 h1) fun vs H2 ⟨Hk2, xs, ρ2, x2, S2, r2, h2⟩ => ?_
  exact h2 _ _ _ (Ex.refl _) S2.1 (RVs.cons.mpr ⟨v, vs, rfl, RV.mono x2 _ _ r1, r2⟩)
theorem dp_str {z : Str} {j : Nat} (hv : PE X v (rdE c a)) (r : DPs X c pos keys values ks m) : DPs X c pos (some (.Constant (.str z) j p1) :: keys) (v :: values) (.inr z :: ks) (mCons a m) := dp_cons (k := .inr z) pe_str hv r
def mDict (ks : List Key) (m : MA) : ME := fun ρ => (m ρ).bind fun xs ρ1 => if decide (ks.length = xs.length) && decide (ks.length ≤ 15) && decide ks.Nodup then .ok (.dct ks xs, ρ1) else .stuck
theorem merge_nodup : ∀ (more kvs : List (Key × V)), (kvs.map (·.1) ++ more.map (·.1)).Nodup → mergeK kvs more = kvs ++ more
  | [], kvs, _ => by simp [mergeK]
  | p :: r, kvs, h => by
    have nk : valV kvs p.1 = none := by
      cases e : valV kvs p.1 with
      | none => rfl
      | some z =>
        exfalso
        have := valV_any p.1 kvs
        rw [e] at this
        simp only [Option.isSome_some] at this
        obtain ⟨q, hq, hq2⟩ := List.any_eq_true.mp this
        rw [List.map_cons] at h
        have := (List.nodup_append.mp h).2.2 q.1 (List.mem_map.mpr ⟨q, hq, rfl⟩) p.1 (by simp)
        exact this (of_decide_eq_true hq2)
    show mergeK (putK kvs p.1 p.2) r = _
    rw [putK_new p.2 nk, merge_nodup r (kvs ++ [(p.1, p.2)]) (by
      rw [List.map_append, List.append_assoc]
      simpa using h)]
    simp
theorem me_dict (h : DPs X c pos keys values ks m) (hall : keys.all (·.isSome) = true := by rfl) (hl : keys.length = values.length := by rfl) (h0 : keys ≠ [] := by intro z; cases z) (h15 : keys.length ≤ 15 := by decide) : PE X (.Dict keys values pos) (rdE c (mDict ks m)) := by
  obtain ⟨trs, e1, e2⟩ := h.ex
  refine PEw (pe_disp e1 hall hl h0 h15) fun σ H Q h => ?_
  obtain ⟨F, Hk, bp, ρ, S, h⟩ := h
  intro p hp
  have hF : F p = none := S.1.fr.back hp
  refine e2 _ _ _ ⟨upd F p (.dK []), Hk, bp, ρ, ⟨S.1.frame (.dK []) hp, S.2.1, c.Jm _ _ _ (Ex.new hF) S.2.2⟩, ?_⟩
  unfold mDict at h
  cases em : m ρ with
  | stuck => rw [em] at h; exact h.elim
  | exc e ρ1 =>
    rw [em] at h
    exact fun Hk' H' cls d x S1 er => h Hk' H' cls d x (S1.unframe hF) er
  | ok r =>
    obtain ⟨xs, ρ1⟩ := r
    rw [em] at h
    intro Hk2 H2 vs x S2 r2
    have h : okE c F Hk bp σ Q (if decide (ks.length = xs.length) && decide (ks.length ≤ 15) && decide ks.Nodup then .ok (.dct ks xs, ρ1) else .stuck) := h
    split at h
    · rename_i hc
      simp only [Bool.and_eq_true, decide_eq_true_eq] at hc
      obtain ⟨⟨c1, c2⟩, c3⟩ := hc
      have lv : ks.length = vs.length := by rw [c1, r2.length]
      have mz : (ks.zip vs).map (·.1) = ks := by
        rw [← List.unzip_fst, List.unzip_zip lv]
      refine ⟨S2.fr p _ upd_same, ks.zip vs, ?_, by rw [List.length_zip]; omega, ?_⟩
      · rw [List.zip_map_left]; rfl
      · rw [merge_nodup _ _ (by rw [mz]; simpa using c3), List.nil_append]
        have S3 := S2.landD hF (.dK (ks.zip vs))
        have hk2 : Hk2 p = none := S2.frk p _ upd_same
        exact h _ _ _ (x.trans (Ex.new hk2)) S3 (RV.dct.mpr ⟨p, vs, rfl, upd_same, c1, r2.mono (Ex.new hk2)⟩)
    · exact h.elim
end
def dctIs : List (Str × MV) → List DictEntry → Bool
  | [], [] => true
  | p :: t, e :: r => e.key.isStr p.1 && flatIs p.2 e.val && dctIs t r
  | _, _ => false
structure DCst (K : PySem.W.Frag) (w : World) (mg : Str → Option Value) (x : Str) (tab : List (Str × MV)) : Prop where
  ex : ∃ a es n, mg x = some (.ref a) ∧ KDict K w a es n ∧ dctIs tab es.toList = true
end Tm
set_option Elab.async false
set_option linter.all false
set_option maxRecDepth 100000
set_option maxHeartbeats 2000000
namespace Tm
open PySem L2 PySem.Spec PyProof.Rows
open Evl (Ex ex_rd ex_l ex_t)
def oddL {α : Type} : List α → List α
  | _ :: b :: r => b :: oddL r
  | _ => []
theorem bounds_12 (n : Nat) : sliceBounds (some 1) none (some 2) n = (min 1 (n : Int), (n : Int), 2) := by
  have e : max (0 : Int) (min 1 (n : Int)) = min 1 (n : Int) := by omega
  show ((if (2 : Int) > 0 then max 0 (min (if (1 : Int) < 0 then (1 : Int) + n else 1) n) else max (-1) (min (if (1 : Int) < 0 then (1 : Int) + n else 1) ((n : Int) - 1))), (if (2 : Int) > 0 then (n : Int) else -1), (2 : Int)) = _
  simp only [show ((2 : Int) > 0) by decide, show ¬ ((1 : Int) < 0) by decide, if_true, if_false, e]
theorem range_12 (n : Nat) : sliceRange (min 1 (n : Int)) (n : Int) 2 = (List.range (n / 2)).map fun k => 1 + 2 * k := by
  unfold sliceRange
  have h1 : (2 : Int) > 0 := by decide
  simp only [h1, if_true]
  have ec : (if min 1 (n : Int) < (n : Int) then ((n : Int) - min 1 (n : Int) + 2 - 1) / 2 else 0).toNat = n / 2 := by
    split <;> omega
  rw [ec]
  apply List.map_congr_left
  intro k hk
  have := List.mem_range.mp hk
  omega
theorem odd_pick {α : Type} : ∀ l : List α, ((List.range (l.length / 2)).map fun k => 1 + 2 * k).filterMap (l[·]?) = oddL l
  | [] => by simp [oddL]
  | [a] => by simp [oddL]
  | a :: b :: r => by
    have ih := odd_pick r
    rw [show (a :: b :: r).length / 2 = r.length / 2 + 1 by simp; omega, List.range_succ_eq_map, List.map_cons, List.filterMap_cons]
    show b :: _ = b :: oddL r
    rw [← ih, List.map_map, List.filterMap_map, List.filterMap_map]
    have e : ((fun x => (a :: b :: r)[x]?) ∘ (fun k => 1 + 2 * k) ∘ Nat.succ) = ((fun x => r[x]?) ∘ fun k => 1 + 2 * k) := by
      funext k
      show (a :: b :: r)[1 + 2 * (k + 1)]? = r[1 + 2 * k]?
      rw [show 1 + 2 * (k + 1) = (1 + 2 * k) + 2 by omega]
      rfl
    rw [e]
theorem pick_12 (items : Array Value) : slicePick items (some 1) none (some 2) = (oddL items.toList).toArray := by
  unfold slicePick
  rw [bounds_12]
  show ((sliceRange (min 1 (items.size : Int)) (items.size : Int) 2).filterMap (items[·]?)).toArray = _
  rw [range_12]
  have := odd_pick items.toList
  rw [Array.length_toList] at this
  rw [← this]
  congr 2
  funext k
  rw [Array.getElem?_toList]
theorem odd_len {α : Type} : ∀ l : List α, (oddL l).length ≤ l.length
  | [] => Nat.le_refl _
  | [_] => by simp [oddL]
  | _ :: _ :: r => by
    have := odd_len r
    simp only [oddL, List.length_cons]; omega
theorem vals_odd : ∀ {xs : List V} {us : List Value}, Vals xs us → Vals (oddL xs) (oddL us)
  | _, _, .nil => .nil
  | _, _, .cons _ .nil => .nil
  | _, _, .cons _ (.cons h r) => .cons h (vals_odd r)
def tOdd (K : PySem.W.Frag) (te : TE) : TE := fun σ H Q => te σ H fun x H1 => ∃ a xs, x = .ref a ∧ SqL K H1 a xs ∧ ∀ p, H1 p = none → Q (.ref p) (upd H1 p (.lst (oddL xs)))
theorem pe_odd {X : Cx} {e : Expr} {te : TE} {k k2 : Nat} {p1 p2 p3 pos : Pos} (he : PE X e te) : PE X (.Subscript e (.Slice (some (.Constant (.int 1) k p1)) none (some (.Constant (.int 2) k2 p2)) p3) pos) (tOdd X.K te) := by
  refine ⟨fun pins s σ H Q I h => ?_⟩
  refine Subscript_ (thn (he.run pins s σ H _ I h) fun v s1 ⟨x, H1, I1, r1, q1⟩ => ?_)
  obtain ⟨a, xs, ex, hx, q⟩ := q1
  subst ex
  cases r1
  have hlo : PO X (some (.Constant (.int 1) k p1)) (tPart (tC (.int 1))) := po_some pe_int
  have hst : PO X (some (.Constant (.int 2) k2 p2)) (tPart (tC (.int 2))) := po_some pe_int
  refine wpAny_Slice (thn (hlo.run pins s1 σ H1 (fun o H2 => o = some 1 ∧ H2 = H1) I1 ⟨1, rfl, rfl, rfl⟩) fun vl s2 ⟨l, H2, I2, pl, el, e2⟩ => ?_)
  subst el e2
  refine thn (po_none.run pins s2 σ H2 (fun o H3 => o = none ∧ H3 = H2) I2 ⟨rfl, rfl⟩) fun vu s3 ⟨u, H3, I3, pu, eu, e3⟩ => ?_
  subst eu e3
  refine thn (hst.run pins s3 σ H3 (fun o H4 => o = some 2 ∧ H4 = H3) I3 ⟨2, rfl, rfl, rfl⟩) fun vs s4 ⟨o, H4, I4, ps, eo, e4⟩ => ?_
  subst eo e4
  have I5 : Inv X pins σ H4 { s4 with heap := s4.heap.push { cls := .type "slice", data := .fields #[vl, vu, vs] } } := I4.kept (t' := s4.toks) fun b ob q => Heap.get?_push_of_some _ q
  obtain ⟨its, r, ht, hz⟩ := I5.list hx
  have hlen := r.length
  show wpAny (model X.prog X.w) X.A (subscriptTail e (.Slice (some (.Constant (.int 1) k p1)) none (some (.Constant (.int 2) k2 p2)) p3) (.ref a) (.ref s4.heap.objs.size)) (EP X pins σ Q) X.xe { s4 with heap := s4.heap.push { cls := .type "slice", data := .fields #[vl, vu, vs] } }
  refine tail_any (ops := [.ref a, .ref s4.heap.objs.size]) ht.isList.typeIs (PySem.slot_list_getitem.lookup) ?_ (by with_unfolding_all rfl)
  refine wpAny_getItem_list_slice ht.isList (Heap.IsSliceOf.new _ vl vu vs) pl pu ps (by decide) ?_ (by rw [List.size_toArray]; omega)
  rw [pick_12]
  refine ⟨.ref _, _, I5.laid (t' := s4.toks) (o := .lst (oddL xs)) (fun b ob q => Heap.get?_push_of_some _ q) (Nat.le_refl _) ?_, rfl, q _ (I5.hok.fresh (Nat.le_refl _))⟩
  have ol := odd_len xs
  refine ⟨by omega, _, 0, ?_, Heap.get?_push_size _ rfl⟩
  exact vals_odd r
def fOdd : MV → Option MV
  | .lst xs => some (.lst (oddL xs))
  | _ => none
def mOdd (a : ME) : ME := mUn fOdd a
section
variable {X : Cx} {c : Ct}
theorem rvs_odd {K : PySem.W.Frag} {H : Hp} : ∀ {xs : List MV} {vs : List V}, RVs K H xs vs → RVs K H (oddL xs) (oddL vs)
  | [], vs, r => by rw [RVs.nil.mp r]; exact RVs.nil.mpr rfl
  | [x], vs, r => by
    obtain ⟨v, us, rfl, q1, q2⟩ := RVs.cons.mp r
    rw [RVs.nil.mp q2]; exact RVs.nil.mpr rfl
  | x :: y :: xs, vs, r => by
    obtain ⟨v, us, rfl, q1, q2⟩ := RVs.cons.mp r
    obtain ⟨w, ts, rfl, q3, q4⟩ := RVs.cons.mp q2
    exact RVs.cons.mpr ⟨w, _, rfl, q3, rvs_odd q4⟩
theorem me_odd {e : Expr} {a : ME} {k k2 : Nat} {p1 p2 p3 pos : Pos} (h : PE X e (rdE c a)) (hK : c.K = X.K := by rfl) : PE X (.Subscript e (.Slice (some (.Constant (.int 1) k p1)) none (some (.Constant (.int 2) k2 p2)) p3) pos) (rdE c (mOdd a)) :=
  PEw (pe_odd h) fun σ H Q q => by
    obtain ⟨F, Hk, bp, ρ, S, q⟩ := q
    refine rdw (bE postE S q) fun v H1 ⟨Hk1, x, ρ1, x1, S1, r1, h1⟩ => ?_
    cases x with
    | lst xs =>
      obtain ⟨p, vs, rfl, g1, s1⟩ := RV.lst.mp r1
      exact ⟨p, vs, rfl, SqL.of (S1.1.ex _ _ g1), fun l hl => h1 _ _ _ (Ex.new (S1.1.ex.back hl)) (S1.1.new hl) (RV.lst.mpr ⟨l, _, rfl, upd_same, (rvs_odd s1).mono (Ex.new (S1.1.ex.back hl))⟩)⟩
    | _ => exact h1.elim
end
@[simp] theorem mOdd_ap {a : ME} {r : Option MV} {ρ : Env} : mOdd a (r :: ρ) = (a (r :: ρ)).bind fun x ρ1 => match fOdd x with | some z => .ok (z, ρ1) | none => .stuck := rfl
@[simp] theorem fOdd_l {xs : List MV} : fOdd (.lst xs) = some (.lst (oddL xs)) := rfl
end Tm
set_option Elab.async false
set_option linter.all false
set_option maxRecDepth 100000
set_option maxHeartbeats 4000000
namespace Tm
open PySem L2
def fnNames : List Str := ["ahead_of_last", "all_or_none", "fill", "five_on", "half_up", "high_half", "lacking", "last_figure", "low_half", "lowest_two", "nine_less", "none_or_all", "not_all", "one_of_none", "one_of_two", "one_or_none", "order_byte", "other_twos", "product_byte", "sign_below", "six_on", "ten_high", "ten_low", "ten_or_none", "top_two"]
def m_lmixed : MS := mSeq (mAsg (mLst (mCons (mC (.int 2147483629)) (mCons (mC (.int 2147483587)) (mCons (mC (.int 2147483579)) (mCons (mC (.int 2147483563)) (mCons (mC (.int 2147483549)) (mCons (mC (.int 2147483543)) (mCons (mC (.int 2147483497)) (mCons (mC (.int 2147483489)) (mNil)))))))))) (gSet 3)) (mSeq (mAsg (mOp fMod (mOp fAdd (mOp fAdd (mOp fAdd (mVar 0) (mOp fMul (mC (.int 7919)) (mVar 2))) (mOp fMul (mC (.int 104729)) (mVar 1))) (mC (.int 13))) (mC (.int 2147483647))) (gSet 4)) (mSeq (mAsg (mOp fMod (mOp fPow (mVar 4) (mC (.int 5))) (mOp fIx (mVar 3) (mOp fMod (mVar 1) (mC (.int 8))))) (gSet 4)) (mSeq (mAsg (mOp fMod (mOp fAdd (mOp fAdd (mVar 4) (mOp fMul (mC (.int 40692)) (mVar 2))) (mVar 1)) (mC (.int 2147483647))) (gSet 5)) (mRet (mOp fAdd (mOp fMul (mOp fMod (mOp fPow (mVar 5) (mC (.int 5))) (mC (.int 2147483647))) (mC (.int 1000000007))) (mVar 4))))))
def f_lmixed : MF := mFn 6 [] m_lmixed
def b_ldraws_0 : MS := mIfS (mTest (mOp fGt (mVar 4) (mC (.int 0)))) (mSeq (mDrop (mLm lmAppend 3 (mCons (mOp fMod (mVar 4) (mOp fIx (mVar 2) (mVar 5))) (mNil)))) (mAsg (mOp fDiv (mVar 4) (mOp fIx (mVar 2) (mVar 5))) (gSet 4))) (mDrop (mLm lmAppend 3 (mCons (mOp fMod (mFz (mCall f_lmixed (mCons (mVar 0) (mCons (mVar 5) (mCons (mVar 1) (mNil)))))) (mOp fIx (mVar 2) (mVar 5))) (mNil))))
def m_ldraws : MS := mSeq (mSetO 3 (mLstO (mNil))) (mSeq (mAsg (mC (.int 0)) (gSet 4)) (mSeq (mIfS (mTest (mOp fGe (mBlt bAbs (mCons (mVar 0) (mNil))) (mOp fPow (mC (.int 10)) (mC (.int 18))))) (mAsg (mBlt bAbs (mCons (mVar 0) (mNil))) (gSet 4)) (mPass)) (mSeq (mFor (mR1 (mCons (mBlt bLen (mCons (mVar 2) (mNil))) (mNil))) (gSet 5) (b_ldraws_0)) (mRet (mMove 3)))))
def f_ldraws : MF := mFn 6 [] m_ldraws
def m_lcell : MS := mSeq (mIfS (mTest (mOp fLt (mVar 1) (mBlt bLen (mCons (mVar 0) (mNil))))) (mRet (mOp fIx (mVar 0) (mVar 1))) (mPass)) (mSeq (mIfS (mTest (mOp fEq (mBlt bLen (mCons (mVar 0) (mNil))) (mC (.int 0)))) (mRet (mOp fMul (mC (.int 7919)) (mOp fAdd (mVar 1) (mC (.int 1))))) (mPass)) (mRet (mOp fAdd (mOp fIx (mVar 0) (mOp fMod (mVar 1) (mBlt bLen (mCons (mVar 0) (mNil))))) (mOp fMul (mC (.int 104729)) (mVar 1)))))
def f_lcell : MF := mFn 2 [] m_lcell
def b_lpower_0 : MS := mAsg (mOp fMul (mVar 2) (mVar 0)) (gSet 2)
def m_lpower : MS := mSeq (mAsg (mC (.int 1)) (gSet 2)) (mSeq (mFor (mR1 (mCons (mVar 1) (mNil))) (gSet 3) (b_lpower_0)) (mRet (mVar 2)))
def f_lpower : MF := mFn 4 [] m_lpower
def m_lends : MS := mSeq (mAsg (mFz (mCall f_lpower (mCons (mC (.int 10)) (mCons (mOp fIx (mVar 0) (mC (.int 1))) (mNil))))) (gSet 1)) (mSeq (mIfS (mTest (mOp fEq (mOp fIx (mVar 0) (mC (.int 2))) (mC (.str "none")))) (mRet (mTup (mCons (mC (.int 0)) (mCons (mOp fSub (mVar 1) (mC (.int 1))) (mNil))))) (mPass)) (mSeq (mIfS (mTest (mOp fEq (mOp fIx (mVar 0) (mC (.int 2))) (mC (.str "end")))) (mRet (mTup (mCons (mOp fSub (mC (.int 1)) (mVar 1)) (mCons (mOp fSub (mVar 1) (mC (.int 1))) (mNil))))) (mPass)) (mRet (mTup (mCons (mOp fSub (mC (.int 0)) (mOp fDiv (mVar 1) (mC (.int 2)))) (mCons (mOp fSub (mOp fDiv (mVar 1) (mC (.int 2))) (mC (.int 1))) (mNil)))))))
def f_lends : MF := mFn 2 [] m_lends
def b_ppower_0 : MS := mAsg (mOp fMul (mVar 2) (mVar 0)) (gSet 2)
def m_ppower : MS := mSeq (mAsg (mC (.int 1)) (gSet 2)) (mSeq (mFor (mR1 (mCons (mVar 1) (mNil))) (gSet 3) (b_ppower_0)) (mRet (mVar 2)))
def f_ppower : MF := mFn 4 [] m_ppower
def m_lform : MS := mSeq (mAsg (mOp fMod (mOp fAdd (mOp fAdd (mOp fMul (mC (.int 7)) (mVar 1)) (mOp fMul (mC (.int 3)) (mVar 0))) (mVar 2)) (mOp fAdd (mVar 1) (mC (.int 2)))) (gSet 3)) (mRet (mTup (mCons (mOp fIx (mLst (mCons (mC (.str "packed")) (mCons (mC (.str "spread")) (mNil)))) (mVar 0)) (mCons (mOp fAdd (mC (.int 1)) (mVar 1)) (mCons (mOp fIx (mLst (mCons (mC (.str "none")) (mCons (mC (.str "end")) (mCons (mC (.str "tens")) (mNil))))) (mVar 2)) (mCons (mVar 3) (mNil)))))))
def f_lform : MF := mFn 4 [] m_lform
def m_lnumber : MS := mSeq (mAsg (mFz (mCall f_lends (mCons (mVar 0) (mNil)))) (gTp 2 (gsCons (gSet 6) (gsCons (gSet 7) (gsNil))))) (mSeq (mIfS (mTest (mOp fGt (mVar 1) (mC (.int 9)))) (mRet (mOp fAdd (mVar 6) (mOp fMod (mVar 2) (mOp fAdd (mOp fSub (mVar 7) (mVar 6)) (mC (.int 1)))))) (mPass)) (mSeq (mAsg (mFz (mCall f_lpower (mCons (mC (.int 10)) (mCons (mOp fMod (mVar 2) (mOp fIx (mVar 0) (mC (.int 1)))) (mNil))))) (gSet 3)) (mSeq (mSetO 4 (mLstO (mCons (mC (.int 0)) (mCons (mC (.int 1)) (mCons (mVar 7) (mCons (mVar 6) (mCons (mVar 3) (mCons (mOp fSub (mVar 3) (mC (.int 1))) (mCons (mOp fMul (mC (.int 5)) (mVar 3)) (mCons (mOp fMul (mC (.int 9)) (mVar 3)) (mCons (mOp fAdd (mVar 3) (mC (.int 1))) (mNil)))))))))))) (mSeq (mDrop (mLm lmAppend 4 (mCons (mOp fMod (mOp fDiv (mVar 2) (mC (.int 16))) (mOp fMul (mC (.int 10)) (mVar 3))) (mNil)))) (mSeq (mAsg (mIxV 4 (mVar 1)) (gSet 5)) (mSeq (mIfS (mAndT (mTest (mOp fLt (mVar 6) (mC (.int 0)))) (mTest (mOp fEq (mOp fMod (mOp fDiv (mVar 2) (mC (.int 13))) (mC (.int 2))) (mC (.int 1))))) (mAsg (mOp fSub (mC (.int 0)) (mVar 5)) (gSet 5)) (mPass)) (mRet (mBlt bMax (mCons (mVar 6) (mCons (mBlt bMin (mCons (mVar 7) (mCons (mVar 5) (mNil)))) (mNil)))))))))))
def f_lnumber : MF := mFn 8 [] m_lnumber
def m_phalves_of : MS := mSeq (mAsg (mOp fAdd (mOp fIx (mVar 0) (mC (.int 1))) (mBlt bInt (mCons (mOp fEq (mOp fIx (mVar 0) (mC (.int 2))) (mC (.str "end"))) (mNil)))) (gSet 1)) (mRet (mTup (mCons (mOp fAdd (mVar 1) (mOp fMod (mVar 1) (mC (.int 2)))) (mCons (mOp fMod (mVar 1) (mC (.int 2))) (mNil)))))
def f_phalves_of : MF := mFn 2 [] m_phalves_of
def b_lfigures_0 : MS := mSeq (mDrop (mLm lmAppend 3 (mCons (mOp fMod (mVar 2) (mC (.int 10))) (mNil)))) (mAsg (mOp fDiv (mVar 2) (mC (.int 10))) (gSet 2))
def m_lfigures : MS := mSeq (mAsg (mBlt bAbs (mCons (mVar 1) (mNil))) (gSet 2)) (mSeq (mIfS (mTest (mOp fEq (mOp fIx (mVar 0) (mC (.int 2))) (mC (.str "tens")))) (mAsg (mOp fMod (mVar 1) (mFz (mCall f_lpower (mCons (mC (.int 10)) (mCons (mOp fIx (mVar 0) (mC (.int 1))) (mNil)))))) (gSet 2)) (mPass)) (mSeq (mSetO 3 (mLstO (mNil))) (mSeq (mFor (mR1 (mCons (mOp fIx (mVar 0) (mC (.int 1))) (mNil))) (gSet 4) (b_lfigures_0)) (mRet (mRevA (mVar 3))))))
def f_lfigures : MF := mFn 5 [] m_lfigures
def m_lby_halves : MS := mRet (mBlt bTuple (mCons (mFz (mLcO (mR3 (mCons (mC (.int 0)) (mCons (mBlt bLen (mCons (mVar 0) (mNil))) (mCons (mC (.int 2)) (mNil))))) (.nm 1) (mYes) (mOp fAdd (mOp fMul (mC (.int 16)) (mOp fIx (mVar 0) (mVar 1))) (mOp fIx (mVar 0) (mOp fAdd (mVar 1) (mC (.int 1))))) [1])) (mNil)))
def f_lby_halves : MF := mFn 2 [] m_lby_halves
def m_lrow_with : MS := mSeq (mAsg (mFz (mCall f_lfigures (mCons (mVar 0) (mCons (mVar 1) (mNil))))) (gSet 3)) (mSeq (mIfS (mTest (mOp fEq (mOp fIx (mVar 0) (mC (.int 0))) (mC (.str "packed")))) (mSeq (mIfS (mTest (mOp fEq (mOp fIx (mVar 0) (mC (.int 2))) (mC (.str "end")))) (mAsg (mOp fAdd (mVar 3) (mLst (mCons (mVar 2) (mNil)))) (gSet 3)) (mPass)) (mRet (mFz (mCall f_lby_halves (mCons (mOp fAdd (mOp fMul (mLst (mCons (mC (.int 0)) (mNil))) (mOp fMod (mBlt bLen (mCons (mVar 3) (mNil))) (mC (.int 2)))) (mVar 3)) (mNil)))))) (mPass)) (mSeq (mSetO 4 (mOpO fMultL (mLst (mCons (mC (.int 15)) (mNil))) (mOp fIx (mVar 0) (mC (.int 1))))) (mSeq (mIfS (mTest (mOp fEq (mOp fIx (mVar 0) (mC (.int 2))) (mC (.str "end")))) (mSetIx 4 (mVar 2) (mUn fNeg (mC (.int 1)))) (mPass)) (mRet (mBlt bTuple (mCons (mFz (mLcO (mZip (mCons (mVar 4) (mCons (mVar 3) (mNil)))) (.tp [5, 6]) (mYes) (mOp fAdd (mOp fMul (mC (.int 16)) (mVar 5)) (mVar 6)) [5, 6])) (mNil)))))))
def f_lrow_with : MF := mFn 7 [] m_lrow_with
def m_ldressed : MS := mSeq (mAsg (mLst (mCons (mC (.int 12)) (mCons (mC (.int 13)) (mCons (mC (.int 10)) (mCons (mC (.int 11)) (mCons (mC (.int 14)) (mCons (mC (.int 15)) (mNil)))))))) (gSet 3)) (mSeq (mIfS (mTest (mOp fGt (mVar 1) (mC (.int 0)))) (mAsg (mLst (mCons (mC (.int 12)) (mCons (mC (.int 10)) (mCons (mC (.int 14)) (mCons (mC (.int 15)) (mNil)))))) (gSet 3)) (mPass)) (mSeq (mIfS (mTest (mOp fLt (mVar 1) (mC (.int 0)))) (mAsg (mLst (mCons (mC (.int 13)) (mCons (mC (.int 11)) (mNil)))) (gSet 3)) (mPass)) (mRet (mFz (mCall f_lrow_with (mCons (mVar 0) (mCons (mVar 1) (mCons (mOp fIx (mVar 3) (mOp fMod (mVar 2) (mBlt bLen (mCons (mVar 3) (mNil))))) (mNil)))))))))
def f_ldressed : MF := mFn 4 [] m_ldressed
def m_pduties : MS := mSeq (mIfS (mTest (mOp fEq (mOp fIx (mVar 0) (mC (.int 0))) (mC (.str "packed")))) (mRet (mOp fAdd (mOp fAdd (mOp fMul (mLst (mCons (mC (.str "ahead")) (mNil))) (mOp fIx (mFz (mCall f_phalves_of (mCons (mVar 0) (mNil)))) (mC (.int 1)))) (mOp fMul (mLst (mCons (mC (.str "figure")) (mNil))) (mOp fIx (mVar 0) (mC (.int 1))))) (mOp fMul (mLst (mCons (mC (.str "sign")) (mNil))) (mBlt bInt (mCons (mOp fEq (mOp fIx (mVar 0) (mC (.int 2))) (mC (.str "end"))) (mNil)))))) (mPass)) (mSeq (mSetO 1 (mOpO fMultL (mLst (mCons (mC (.str "zone")) (mCons (mC (.str "figure")) (mNil)))) (mOp fIx (mVar 0) (mC (.int 1))))) (mSeq (mIfS (mTest (mOp fEq (mOp fIx (mVar 0) (mC (.int 2))) (mC (.str "end")))) (mSetIx 1 (mC (.str "sign")) (mUn fNeg (mC (.int 2)))) (mPass)) (mRet (mMove 1))))
def f_pduties : MF := mFn 2 [] m_pduties
def b_phalves_in_0 : MS := mDrop (mLm lmExtend 1 (mCons (mLst (mCons (mOp fDiv (mVar 2) (mC (.int 16))) (mCons (mOp fMod (mVar 2) (mC (.int 16))) (mNil)))) (mNil)))
def m_phalves_in : MS := mSeq (mSetO 1 (mLstO (mNil))) (mSeq (mFor (mItV (mVar 0)) (gSet 2) (b_phalves_in_0)) (mRet (mMove 1)))
def f_phalves_in : MF := mFn 3 [] m_phalves_in
def m_phalf_right : MS := mSeq (mIfS (mTest (mOp fEq (mVar 0) (mC (.str "ahead")))) (mRet (mOp fEq (mVar 1) (mC (.int 0)))) (mPass)) (mSeq (mIfS (mTest (mOp fEq (mVar 0) (mC (.str "figure")))) (mRet (mOp fLt (mVar 1) (mC (.int 10)))) (mPass)) (mSeq (mIfS (mTest (mOp fEq (mVar 0) (mC (.str "zone")))) (mRet (mOp fEq (mVar 1) (mC (.int 15)))) (mPass)) (mRet (mOp fGt (mVar 1) (mC (.int 9))))))
def f_phalf_right : MF := mFn 2 [] m_phalf_right
def b_pcaught_0 : MS := mSeq (mIfS (mTest (mOp fGe (mVar 4) (mBlt bLen (mCons (mVar 2) (mNil))))) (mRet (mTup (mCons (mVar 4) (mCons (mC (.str "length")) (mNil))))) (mPass)) (mIfS (mNotT (mTest (mFz (mCall f_phalf_right (mCons (mOp fIx (mVar 2) (mVar 4)) (mCons (mVar 5) (mNil))))))) (mRet (mTup (mCons (mVar 4) (mCons (mOp fIx (mVar 2) (mVar 4)) (mNil))))) (mPass))
def m_pcaught : MS := mSeq (mAsg (mFz (mCall f_pduties (mCons (mVar 0) (mNil)))) (gSet 2)) (mSeq (mAsg (mFz (mCall f_phalves_in (mCons (mVar 1) (mNil)))) (gSet 3)) (mSeq (mFor (mEnum (mCons (mVar 3) (mNil))) (gTp 2 (gsCons (gSet 4) (gsCons (gSet 5) (gsNil)))) (b_pcaught_0)) (mSeq (mIfS (mTest (mOp fLt (mBlt bLen (mCons (mVar 3) (mNil))) (mBlt bLen (mCons (mVar 2) (mNil))))) (mRet (mTup (mCons (mBlt bLen (mCons (mVar 3) (mNil))) (mCons (mC (.str "length")) (mNil))))) (mPass)) (mRet (mC .non)))))
def f_pcaught : MF := mFn 6 [] m_pcaught
def b_pnumber_by_0 : MS := mAsg (mOp fAdd (mOp fMul (mVar 2) (mVar 0)) (mVar 3)) (gSet 2)
def m_pnumber_by : MS := mSeq (mAsg (mC (.int 0)) (gSet 2)) (mSeq (mFor (mItV (mVar 1)) (gSet 3) (b_pnumber_by_0)) (mRet (mVar 2)))
def f_pnumber_by : MF := mFn 4 [] m_pnumber_by
def m_pnumber_of : MS := mSeq (mAsg (mFz (mCall f_pcaught (mCons (mVar 0) (mCons (mVar 1) (mNil))))) (gSet 2)) (mSeq (mIfS (mTest (mOp fNotN (mVar 2) (mC .non))) (mRaise2 "Wrong" "place" "why" (mOp fIx (mVar 2) (mC (.int 0))) (mOp fIx (mVar 2) (mC (.int 1)))) (mPass)) (mSeq (mAsg (mFz (mCall f_pduties (mCons (mVar 0) (mNil)))) (gSet 3)) (mSeq (mAsg (mFz (mCall f_phalves_in (mCons (mVar 1) (mNil)))) (gSet 4)) (mSeq (mSetO 5 (mLcO (mR1 (mCons (mBlt bLen (mCons (mVar 3) (mNil))) (mNil))) (.nm 7) (mTest (mOp fEq (mOp fIx (mVar 3) (mVar 7)) (mC (.str "figure")))) (mOp fIx (mVar 4) (mVar 7)) [7])) (mSeq (mAsg (mFz (mCall f_pnumber_by (mCons (mC (.int 10)) (mCons (mVar 5) (mNil))))) (gSet 6)) (mSeq (mIfS (mAndT (mTest (mOp fEq (mOp fIx (mVar 0) (mC (.int 2))) (mC (.str "end")))) (mTest (mOp fIn (mOp fIx (mVar 4) (mLx lxIndex (mVar 3) (mCons (mC (.str "sign")) (mNil)))) (mC (.tup [(.int 11), (.int 13)]))))) (mRet (mUn fNeg (mVar 6))) (mPass)) (mSeq (mIfS (mAndT (mTest (mOp fEq (mOp fIx (mVar 0) (mC (.int 2))) (mC (.str "tens")))) (mTest (mOp fGt (mOp fIx (mVar 5) (mC (.int 0))) (mC (.int 4))))) (mRet (mOp fSub (mVar 6) (mFz (mCall f_ppower (mCons (mC (.int 10)) (mCons (mOp fIx (mVar 0) (mC (.int 1))) (mNil))))))) (mPass)) (mRet (mVar 6)))))))))
def f_pnumber_of : MF := mFn 8 [] m_pnumber_of
def b_lrun_0 : MS := mSeq (mAsg (mOp fIx (mVar 3) (mC (.int 0))) (gSet 6)) (mSeq (mAsg (mOp fIx (mVar 3) (mC (.int 1))) (gSet 7)) (mIfS (mTest (mOp fEq (mVar 6) (mC (.str "copy")))) (mSetIx 1 (mIxV 1 (mOp fIx (mVar 3) (mC (.int 2)))) (mVar 7)) (mIfS (mTest (mOp fEq (mVar 6) (mC (.str "look")))) (mSetIx 1 (mOp fIx (mOp fIx (mVar 4) (mOp fIx (mVar 3) (mC (.int 2)))) (mIxV 1 (mVar 7))) (mVar 7)) (mIfS (mOrT (mTest (mOp fEq (mVar 6) (mC (.str "add")))) (mTest (mOp fEq (mVar 6) (mC (.str "addc"))))) (mSeq (mAsg (mOp fAdd (mOp fAdd (mIxV 1 (mVar 7)) (mIxV 1 (mOp fIx (mVar 3) (mC (.int 2))))) (mOp fMul (mVar 2) (mBlt bInt (mCons (mOp fEq (mVar 6) (mC (.str "addc"))) (mNil))))) (gSet 8)) (mSeq (mSetIx 1 (mOp fMod (mVar 8) (mC (.int 256))) (mVar 7)) (mAsg (mOp fDiv (mVar 8) (mC (.int 256))) (gSet 2)))) (mIfS (mTest (mOp fEq (mVar 6) (mC (.str "put")))) (mSetIx 1 (mOp fIx (mVar 3) (mC (.int 2))) (mVar 7)) (mIfS (mTest (mOp fEq (mVar 6) (mC (.str "and")))) (mSetIx 1 (mOp fAnd (mIxV 1 (mVar 7)) (mIxV 1 (mOp fIx (mVar 3) (mC (.int 2))))) (mVar 7)) (mIfS (mTest (mOp fEq (mVar 6) (mC (.str "or")))) (mSetIx 1 (mOp fOr (mIxV 1 (mVar 7)) (mIxV 1 (mOp fIx (mVar 3) (mC (.int 2))))) (mVar 7)) (mIfS (mTest (mOp fEq (mVar 6) (mC (.str "left")))) (mSeq (mAsg (mOp fAdd (mOp fMul (mC (.int 2)) (mIxV 1 (mVar 7))) (mVar 2)) (gSet 8)) (mSeq (mSetIx 1 (mOp fMod (mVar 8) (mC (.int 256))) (mVar 7)) (mAsg (mOp fDiv (mVar 8) (mC (.int 256))) (gSet 2)))) (mIfS (mTest (mOp fEq (mVar 6) (mC (.str "right")))) (mSeq (mAsg (mOp fAdd (mIxV 1 (mVar 7)) (mOp fMul (mC (.int 256)) (mVar 2))) (gSet 8)) (mSeq (mSetIx 1 (mOp fDiv (mVar 8) (mC (.int 2))) (mVar 7)) (mAsg (mOp fMod (mVar 8) (mC (.int 2))) (gSet 2)))) (mAsg (mVar 7) (gSet 2)))))))))))
def m_lrun : MS := mSeq (mAsg (mVar 0) (gTp 2 (gsCons (gSet 4) (gsCons (gSet 5) (gsNil))))) (mSeq (mSetO 1 (mListO (mCons (mVar 1) (mNil)))) (mSeq (mFor (mItV (mVar 5)) (gSet 3) (b_lrun_0)) (mRet (mTup (mCons (mVar 1) (mCons (mVar 2) (mNil)))))))
def f_lrun : MF := mFn 9 [] m_lrun
def b_lfilled_0 : MS := mSeq (mAsg (mOp fAdd (mOp fMul (mOp fAdd (mOp fMul (mOp fIx (mVar 3) (mC (.int 3))) (mVar 5)) (mOp fIx (mVar 3) (mC (.int 4)))) (mVar 5)) (mOp fIx (mVar 3) (mC (.int 5)))) (gSet 6)) (mDrop (mLm lmAppend 4 (mCons (mOp fMod (mOp fDiv (mOp fMod (mVar 6) (mC (.int 65519))) (mC (.int 7))) (mC (.int 256))) (mNil))))
def m_lfilled : MS := mSeq (mAsg (mFz (mCall f_ldraws (mCons (mVar 0) (mCons (mVar 1) (mCons (mLst (mCons (mC (.int 2)) (mCons (mC (.int 5)) (mCons (mC (.int 256)) (mCons (mC (.int 65519)) (mCons (mC (.int 65519)) (mCons (mC (.int 65519)) (mNil)))))))) (mNil)))))) (gSet 3)) (mSeq (mSetO 4 (mOpO fMultL (mLst (mCons (mC (.int 0)) (mNil))) (mC (.int 256)))) (mSeq (mIfS (mTest (mOp fEq (mOp fIx (mVar 3) (mC (.int 1))) (mC (.int 1)))) (mSetO 4 (mOpO fMultL (mLst (mCons (mC (.int 255)) (mNil))) (mC (.int 256)))) (mPass)) (mSeq (mIfS (mTest (mOp fEq (mOp fIx (mVar 3) (mC (.int 1))) (mC (.int 2)))) (mSetO 4 (mOpO fMultL (mLst (mCons (mOp fIx (mVar 3) (mC (.int 2))) (mNil))) (mC (.int 256)))) (mPass)) (mSeq (mIfS (mTest (mOp fGt (mOp fIx (mVar 3) (mC (.int 1))) (mC (.int 2)))) (mSeq (mSetO 4 (mLstO (mNil))) (mFor (mR1 (mCons (mC (.int 256)) (mNil))) (gSet 5) (b_lfilled_0))) (mPass)) (mRet (mTup (mCons (mOp fAdd (mBlt bList (mCons (mVar 2) (mNil))) (mSlV 4 (mPart (mBlt bLen (mCons (mVar 2) (mNil)))) (mNo))) (mCons (mOp fIx (mVar 3) (mC (.int 0))) (mNil)))))))))
def f_lfilled : MF := mFn 7 [] m_lfilled
def m_lafter : MS := mSeq (mAsg (mFz (mCall f_lfilled (mCons (mVar 2) (mCons (mVar 3) (mCons (mVar 1) (mNil)))))) (gTp 2 (gsCons (gSet 5) (gsCons (gSet 6) (gsNil))))) (mSeq (mAsg (mFz (mCall f_lrun (mCons (mVar 0) (mCons (mVar 5) (mCons (mVar 6) (mNil)))))) (gTp 2 (gsCons (gSet 5) (gsCons (gSet 6) (gsNil))))) (mRet (mTup (mCons (mBlt bTuple (mCons (mSl (mVar 5) (mNo) (mPart (mVar 4))) (mNil))) (mCons (mVar 6) (mNil))))))
def f_lafter : MF := mFn 7 [] m_lafter
def m_phalf_looks : MS := mSeq (mAsg (mSl (mVar 0) (mNo) (mPart (mC (.int 3)))) (gTp 3 (gsCons (gSet 2) (gsCons (gSet 3) (gsCons (gSet 4) (gsNil)))))) (mSeq (mIfS (mTest (mOp fEq (mVar 2) (mC (.str "spread")))) (mSeq (mSetO 1 (mOpO fMultL (mLst (mCons (mC (.int 3)) (mCons (mC (.int 0)) (mNil)))) (mVar 3))) (mSeq (mIfS (mTest (mOp fEq (mVar 4) (mC (.str "end")))) (mSetIx 1 (mC (.int 1)) (mUn fNeg (mC (.int 2)))) (mPass)) (mRet (mMove 1)))) (mPass)) (mSeq (mSetO 1 (mOpO fMultL (mLst (mCons (mC (.int 0)) (mNil))) (mVar 3))) (mSeq (mIfS (mTest (mOp fEq (mVar 4) (mC (.str "end")))) (mDrop (mLm lmAppend 1 (mCons (mC (.int 1)) (mNil)))) (mPass)) (mRet (mOp fAdd (mOp fMul (mLst (mCons (mC (.int 2)) (mNil))) (mOp fMod (mLenV 1) (mC (.int 2)))) (mVar 1))))))
def f_phalf_looks : MF := mFn 5 [] m_phalf_looks
def b_pflag_table_0 : MS := mSeq (mAsg (mIf (mTest (mVar 0)) (mOp fDiv (mVar 3) (mC (.int 16))) (mOp fMod (mVar 3) (mC (.int 16)))) (gSet 4)) (mDrop (mLm lmAppend 2 (mCons (mIf (mTest (mOp fIn (mVar 4) (mVar 1))) (mC (.int 0)) (mC (.int 255))) (mNil))))
def m_pflag_table : MS := mSeq (mSetO 2 (mLstO (mNil))) (mSeq (mFor (mR1 (mCons (mC (.int 256)) (mNil))) (gSet 3) (b_pflag_table_0)) (mRet (mBlt bTuple (mCons (mVar 2) (mNil)))))
def f_pflag_table : MF := mFn 5 [] m_pflag_table
def b_plook_tables_0 : MS := mDrop (mLm lmAppend 0 (mCons (mFz (mCall f_pflag_table (mCons (mVar 1) (mCons (mVar 2) (mNil))))) (mNil)))
def b_plook_tables_1 : MS := mFor (mItV (mTup (mCons (mC (.tup [(.int 0), (.int 1), (.int 2), (.int 3), (.int 4), (.int 5), (.int 6), (.int 7), (.int 8), (.int 9)])) (mCons (mC (.tup [(.int 10), (.int 11), (.int 12), (.int 13), (.int 14), (.int 15)])) (mCons (mTup (mCons (mC (.int 0)) (mNil))) (mCons (mTup (mCons (mC (.int 15)) (mNil))) (mNil))))))) (gSet 2) (b_plook_tables_0)
def m_plook_tables : MS := mSeq (mSetO 0 (mLstO (mNil))) (mSeq (mFor (mItV (mTup (mCons (mC (.bl true)) (mCons (mC (.bl false)) (mNil))))) (gSet 1) (b_plook_tables_1)) (mRet (mBlt bTuple (mCons (mOp fAdd (mVar 0) (mLst (mCons (mBlt bTuple (mCons (mFz (mLcO (mR1 (mCons (mC (.int 256)) (mNil))) (.nm 3) (mYes) (mOp fSub (mC (.int 255)) (mVar 3)) [3])) (mNil))) (mNil)))) (mNil)))))
def f_plook_tables : MF := mFn 4 [] m_plook_tables
def m_plook_rows : MS := mSeq (mAsg (mOp fAdd (mVar 1) (mOp fMul (mC (.int 4)) (mOp fMod (mVar 0) (mC (.int 2))))) (gSet 2)) (mSeq (mAsg (mLst (mCons (mTup (mCons (mC (.str "copy")) (mCons (mC (.int 253)) (mCons (mOp fDiv (mVar 0) (mC (.int 2))) (mNil))))) (mCons (mTup (mCons (mC (.str "look")) (mCons (mC (.int 253)) (mCons (mVar 2) (mNil))))) (mCons (mTup (mCons (mC (.str "copy")) (mCons (mC (.int 254)) (mCons (mC (.int 253)) (mNil))))) (mCons (mTup (mCons (mC (.str "look")) (mCons (mC (.int 254)) (mCons (mC (.int 8)) (mNil))))) (mNil)))))) (gSet 3)) (mSeq (mAsg (mOp fAdd (mVar 3) (mLst (mCons (mTup (mCons (mC (.str "and")) (mCons (mC (.int 252)) (mCons (mC (.int 254)) (mNil))))) (mCons (mTup (mCons (mC (.str "put")) (mCons (mC (.int 255)) (mCons (mOp fAdd (mVar 0) (mC (.int 1))) (mNil))))) (mCons (mTup (mCons (mC (.str "and")) (mCons (mC (.int 255)) (mCons (mC (.int 253)) (mNil))))) (mNil)))))) (gSet 3)) (mRet (mOp fAdd (mVar 3) (mLst (mCons (mTup (mCons (mC (.str "or")) (mCons (mC (.int 252)) (mCons (mC (.int 255)) (mNil))))) (mNil)))))))
def f_plook_rows : MF := mFn 4 [] m_plook_rows
def b_pcheck_rows_0 : MS := mDrop (mLm lmExtend 2 (mCons (mFz (mCall f_plook_rows (mCons (mVar 3) (mCons (mOp fIx (mVar 1) (mVar 3)) (mNil))))) (mNil)))
def m_pcheck_rows : MS := mSeq (mAsg (mFz (mCall f_phalf_looks (mCons (mVar 0) (mNil)))) (gSet 1)) (mSeq (mSetO 2 (mLstO (mCons (mTup (mCons (mC (.str "put")) (mCons (mC (.int 252)) (mCons (mC (.int 0)) (mNil))))) (mNil)))) (mSeq (mFor (mR3 (mCons (mOp fSub (mBlt bLen (mCons (mVar 1) (mNil))) (mC (.int 1))) (mCons (mUn fNeg (mC (.int 1))) (mCons (mUn fNeg (mC (.int 1))) (mNil))))) (gSet 3) (b_pcheck_rows_0)) (mRet (mTup (mCons (mFz (mCall0 f_plook_tables mNil)) (mCons (mBlt bTuple (mCons (mOp fAdd (mVar 2) (mLst (mCons (mTup (mCons (mC (.str "copy")) (mCons (mC (.int 0)) (mCons (mC (.int 252)) (mNil))))) (mCons (mTup (mCons (mC (.str "mark")) (mCons (mC (.int 0)) (mNil)))) (mNil))))) (mNil))) (mNil)))))))
def f_pcheck_rows : MF := mFn 4 [] m_pcheck_rows
def b_lcaught_0 : MS := mAsg (mOp fAdd (mVar 3) (mLst (mCons (mOp fDiv (mVar 4) (mC (.int 16))) (mCons (mOp fMod (mVar 4) (mC (.int 16))) (mNil))))) (gSet 3)
def b_lcaught_1 : MS := mSeq (mIfS (mTest (mOp fGe (mVar 6) (mBlt bLen (mCons (mVar 3) (mNil))))) (mRet (mTup (mCons (mVar 6) (mCons (mC (.str "length")) (mNil))))) (mPass)) (mSeq (mAsg (mOp fDix (mVar 5) (mIxV 2 (mVar 6))) (gTp 2 (gsCons (gSet 7) (gsCons (gSet 8) (gsNil))))) (mIfS (mNotT (mTest (mChain fLe fLe (mVar 7) (mOp fIx (mVar 3) (mVar 6)) (mVar 8)))) (mRet (mTup (mCons (mVar 6) (mCons (mIxV 2 (mVar 6)) (mNil))))) (mPass)))
def m_lcaught : MS := mSeq (mSetO 2 (mOpO fMultL (mLst (mCons (mC (.str "figure")) (mNil))) (mOp fIx (mVar 0) (mC (.int 1))))) (mSeq (mIfS (mTest (mOp fEq (mOp fIx (mVar 0) (mC (.int 2))) (mC (.str "end")))) (mDrop (mLm lmAppend 2 (mCons (mC (.str "sign")) (mNil)))) (mPass)) (mSeq (mSetO 2 (mOpO fAddL (mOp fMul (mLst (mCons (mC (.str "ahead")) (mNil))) (mOp fMod (mLenV 2) (mC (.int 2)))) (mVar 2))) (mSeq (mIfS (mTest (mOp fEq (mOp fIx (mVar 0) (mC (.int 0))) (mC (.str "spread")))) (mSeq (mSetO 2 (mOpO fMultL (mLst (mCons (mC (.str "zone")) (mCons (mC (.str "figure")) (mNil)))) (mOp fIx (mVar 0) (mC (.int 1))))) (mIfS (mTest (mOp fEq (mOp fIx (mVar 0) (mC (.int 2))) (mC (.str "end")))) (mSetIx 2 (mC (.str "sign")) (mUn fNeg (mC (.int 2)))) (mPass))) (mPass)) (mSeq (mAsg (mLst (mNil)) (gSet 3)) (mSeq (mFor (mItV (mVar 1)) (gSet 4) (b_lcaught_0)) (mSeq (mAsg (mDict [.inr "ahead", .inr "figure", .inr "zone", .inr "sign"] (mCons (mTup (mCons (mC (.int 0)) (mCons (mC (.int 0)) (mNil)))) (mCons (mTup (mCons (mC (.int 0)) (mCons (mC (.int 9)) (mNil)))) (mCons (mTup (mCons (mC (.int 15)) (mCons (mC (.int 15)) (mNil)))) (mCons (mTup (mCons (mC (.int 10)) (mCons (mC (.int 15)) (mNil)))) (mNil)))))) (gSet 5)) (mSeq (mFor (mR1 (mCons (mLenV 2) (mNil))) (gSet 6) (b_lcaught_1)) (mSeq (mIfS (mTest (mOp fGt (mBlt bLen (mCons (mVar 3) (mNil))) (mLenV 2))) (mRet (mTup (mCons (mLenV 2) (mCons (mC (.str "length")) (mNil))))) (mPass)) (mRet (mC .non))))))))))
def f_lcaught : MF := mFn 9 [] m_lcaught
def b_lread_row_0 : MS := mAsg (mOp fAdd (mVar 2) (mLst (mCons (mOp fDiv (mVar 3) (mC (.int 16))) (mCons (mOp fMod (mVar 3) (mC (.int 16))) (mNil))))) (gSet 2)
def b_lread_row_1 : MS := mAsg (mOp fAdd (mOp fMul (mC (.int 10)) (mVar 5)) (mVar 6)) (gSet 5)
def m_lread_row : MS := mSeq (mAsg (mLst (mNil)) (gSet 2)) (mSeq (mFor (mItV (mVar 1)) (gSet 3) (b_lread_row_0)) (mSeq (mAsg (mC (.int 12)) (gSet 4)) (mSeq (mIfS (mTest (mOp fEq (mOp fIx (mVar 0) (mC (.int 0))) (mC (.str "spread")))) (mSeq (mIfS (mTest (mOp fEq (mOp fIx (mVar 0) (mC (.int 2))) (mC (.str "end")))) (mAsg (mOp fIx (mVar 2) (mUn fNeg (mC (.int 2)))) (gSet 4)) (mPass)) (mAsg (mOdd (mVar 2)) (gSet 2))) (mIfS (mTest (mOp fEq (mOp fIx (mVar 0) (mC (.int 2))) (mC (.str "end")))) (mSeq (mAsg (mOp fIx (mVar 2) (mUn fNeg (mC (.int 1)))) (gSet 4)) (mAsg (mSl (mVar 2) (mNo) (mPart (mUn fNeg (mC (.int 1))))) (gSet 2))) (mPass))) (mSeq (mAsg (mC (.int 0)) (gSet 5)) (mSeq (mFor (mItV (mVar 2)) (gSet 6) (b_lread_row_1)) (mSeq (mIfS (mTest (mOp fIn (mVar 4) (mTup (mCons (mC (.int 11)) (mCons (mC (.int 13)) (mNil)))))) (mRet (mOp fSub (mC (.int 0)) (mVar 5))) (mPass)) (mSeq (mIfS (mAndT (mTest (mOp fEq (mOp fIx (mVar 0) (mC (.int 2))) (mC (.str "tens")))) (mTest (mOp fGe (mVar 5) (mOp fMul (mC (.int 5)) (mFz (mCall f_lpower (mCons (mC (.int 10)) (mCons (mOp fSub (mOp fIx (mVar 0) (mC (.int 1))) (mC (.int 1))) (mNil))))))))) (mRet (mOp fSub (mVar 5) (mFz (mCall f_lpower (mCons (mC (.int 10)) (mCons (mOp fIx (mVar 0) (mC (.int 1))) (mNil))))))) (mPass)) (mRet (mVar 5)))))))))
def f_lread_row : MF := mFn 7 [] m_lread_row
def m_ljust (self : MF) : MS := mSeq (mIfS (mTest (mBlt bIsi (mCons (mVar 1) (mCons (mC (.raw (.ty "tuple"))) mNil)))) (mSeq (mIfS (mOrT (mNotT (mTest (mBlt bIsi (mCons (mVar 0) (mCons (mC (.raw (.ty "tuple"))) mNil))))) (mTest (mOp fNe (mBlt bLen (mCons (mVar 0) (mNil))) (mBlt bLen (mCons (mVar 1) (mNil)))))) (mRet (mC (.bl false))) (mPass)) (mRet (mBlt bAll (mCons (mFz (mLcO (mZip (mCons (mVar 0) (mCons (mVar 1) (mNil)))) (.tp [2, 3]) (mYes) (mFz (mCall0 self (mCons (mVar 2) (mCons (mVar 3) (mNil))))) [2, 3])) (mNil))))) (mPass)) (mSeq (mIfS (mOrT (mTest (mBlt bIsi (mCons (mVar 1) (mCons (mC (.raw (.ty "str"))) mNil)))) (mTest (mOp fIsN (mVar 1) (mC .non)))) (mRet (mBv (mAndT (mTest (mOp fEq (mBlt bIsi (mCons (mVar 0) (mCons (mC (.raw (.ty "str"))) mNil))) (mBlt bIsi (mCons (mVar 1) (mCons (mC (.raw (.ty "str"))) mNil))))) (mTest (mOp fEq (mVar 0) (mVar 1)))))) (mPass)) (mSeq (mIfS (mOrT (mNotT (mTest (mBlt bIsi (mCons (mVar 0) (mCons (mC (.raw (.ty "int"))) mNil))))) (mTest (mOp fNe (mBlt bIsi (mCons (mVar 0) (mCons (mC (.raw (.ty "bool"))) mNil))) (mBlt bIsi (mCons (mVar 1) (mCons (mC (.raw (.ty "bool"))) mNil)))))) (mRet (mC (.bl false))) (mPass)) (mRet (mOp fEq (mVar 0) (mVar 1)))))
def f_ljust : MF := mRec 4 [] m_ljust 8
def b_lread2_0 : MS := mAsg (mTup (mCons (mC (.str "told")) (mCons (mFz (mCall f_pnumber_of (mCons (mVar 0) (mCons (mVar 1) (mNil))))) (mNil)))) (gSet 2)
def m_lread2 : MS := mSeq (mAsg (mC .non) (gSet 2)) (mSeq (mTry 3 [("Wrong", true)] (b_lread2_0) (fun ex => mAsg (mTup (mCons (mC (.str "wrong")) (mCons (mTup (mCons (mExF ex "place") (mCons (mExF ex "why") (mNil)))) (mNil)))) (gSet 2))) (mRet (mVar 2)))
def f_lread2 : MF := mFn 4 [] m_lread2
def m_lright9 : MS := mSeq (mAsg (mFz (mCall f_pcaught (mCons (mVar 0) (mCons (mVar 2) (mNil))))) (gSet 5)) (mSeq (mIfS (mNotT (mTest (mFz (mCall f_ljust (mCons (mVar 5) (mCons (mFz (mCall f_lcaught (mCons (mVar 0) (mCons (mVar 2) (mNil))))) (mNil))))))) (mRet (mC (.bl false))) (mPass)) (mSeq (mAsg (mC (.int 0)) (gSet 6)) (mSeq (mAsg (mFz (mCall f_lread2 (mCons (mVar 0) (mCons (mVar 2) (mNil))))) (gSet 7)) (mSeq (mIfS (mTest (mOp fIsN (mVar 5) (mC .non))) (mIfS (mNotT (mTest (mFz (mCall f_ljust (mCons (mVar 7) (mCons (mTup (mCons (mC (.str "told")) (mCons (mFz (mCall f_lread_row (mCons (mVar 0) (mCons (mVar 2) (mNil))))) (mNil)))) (mNil))))))) (mRet (mC (.bl false))) (mPass)) (mSeq (mAsg (mOp fAdd (mC (.int 1)) (mOp fIx (mVar 5) (mC (.int 0)))) (gSet 6)) (mIfS (mTest (mOp fNe (mVar 7) (mTup (mCons (mC (.str "wrong")) (mCons (mVar 5) (mNil)))))) (mRet (mC (.bl false))) (mPass)))) (mRet (mOp fEq (mFz (mCall f_lafter (mCons (mVar 1) (mCons (mVar 2) (mCons (mVar 3) (mCons (mVar 4) (mCons (mC (.int 1)) (mNil)))))))) (mTup (mCons (mTup (mCons (mVar 6) (mNil))) (mCons (mC (.int 0)) (mNil))))))))))
def f_lright9 : MF := mFn 8 [] m_lright9
def b_law74_0 : MS := mSeq (mAsg (mOp fIx (mVar 2) (mOp fDiv (mVar 4) (mC (.int 2)))) (gSet 13)) (mSeq (mAsg (mOp fIx (mLst (mCons (mOp fAdd (mOp fMul (mC (.int 16)) (mVar 10)) (mOp fMod (mVar 13) (mC (.int 16)))) (mCons (mOp fAdd (mOp fSub (mVar 13) (mOp fMod (mVar 13) (mC (.int 16)))) (mVar 10)) (mNil)))) (mOp fMod (mVar 4) (mC (.int 2)))) (gSet 14)) (mSeq (mAsg (mOp fAdd (mOp fAdd (mSl (mVar 2) (mNo) (mPart (mOp fDiv (mVar 4) (mC (.int 2))))) (mTup (mCons (mVar 14) (mNil)))) (mSl (mVar 2) (mPart (mOp fAdd (mOp fDiv (mVar 4) (mC (.int 2))) (mC (.int 1)))) (mNo))) (gSet 15)) (mSeq (mAsg (mFz (mCall f_lcell (mCons (mVar 0) (mCons (mOp fAdd (mC (.int 3)) (mVar 4)) (mNil))))) (gSet 16)) (mIfS (mAndT (mTest (mOp fEq (mOp fMod (mVar 4) (mC (.int 4))) (mVar 12))) (mNotT (mTest (mFz (mCall f_lright9 (mCons (mVar 1) (mCons (mVar 3) (mCons (mVar 15) (mCons (mVar 16) (mCons (mOp fAdd (mC (.int 441)) (mVar 4)) (mNil))))))))))) (mRet (mC (.bl false))) (mPass)))))
def m_law74 : MS := mSeq (mAsg (mFz (mCall f_ldraws (mCons (mFz (mCall f_lcell (mCons (mVar 0) (mCons (mC (.int 0)) (mNil))))) (mCons (mC (.int 435)) (mCons (mLst (mCons (mC (.int 2)) (mCons (mC (.int 12)) (mCons (mC (.int 3)) (mCons (mC (.int 16)) (mCons (mC (.int 12)) (mCons (mC (.int 16)) (mNil)))))))) (mNil)))))) (gTp 6 (gsCons (gSet 5) (gsCons (gSet 6) (gsCons (gSet 7) (gsCons (gSet 8) (gsCons (gSet 9) (gsCons (gSet 10) (gsNil))))))))) (mSeq (mAsg (mFz (mCall f_ldraws (mCons (mFz (mCall f_lcell (mCons (mVar 0) (mCons (mC (.int 1)) (mNil))))) (mCons (mC (.int 437)) (mCons (mLst (mCons (mOp fPow (mC (.int 10)) (mC (.int 14))) (mCons (mC (.int 4)) (mNil)))) (mNil)))))) (gTp 2 (gsCons (gSet 11) (gsCons (gSet 12) (gsNil))))) (mSeq (mAsg (mFz (mCall f_lform (mCons (mVar 5) (mCons (mVar 6) (mCons (mVar 7) (mNil)))))) (gSet 1)) (mSeq (mAsg (mFz (mCall f_ldressed (mCons (mVar 1) (mCons (mFz (mCall f_lnumber (mCons (mVar 1) (mCons (mVar 8) (mCons (mVar 11) (mNil)))))) (mCons (mVar 9) (mNil)))))) (gSet 2)) (mSeq (mAsg (mFz (mCall f_pcheck_rows (mCons (mVar 1) (mNil)))) (gSet 3)) (mSeq (mIfS (mNotT (mTest (mFz (mCall f_lright9 (mCons (mVar 1) (mCons (mVar 3) (mCons (mVar 2) (mCons (mFz (mCall f_lcell (mCons (mVar 0) (mCons (mC (.int 2)) (mNil))))) (mCons (mC (.int 439)) (mNil)))))))))) (mRet (mC (.bl false))) (mPass)) (mSeq (mFor (mR1 (mCons (mOp fMul (mC (.int 2)) (mBlt bLen (mCons (mVar 2) (mNil)))) (mNil))) (gSet 4) (b_law74_0)) (mRet (mC (.bl true)))))))))
def f_law74 : MF := mFn 17 [] m_law74
theorem lcell_ok (ns : List Int) (k : Nat) : ∃ v : Int, f_lcell [.scr ns, .int k] = .ok (.int v, []) := by
  unfold f_lcell
  by_cases h : (k : Int) < ns.length
  · have h' : k < ns.length := by omega
    refine ⟨ns[k], mFn_ok ?_⟩
    simp [m_lcell, h', atI_ge]
  · by_cases h0 : ns.length = 0
    · have h' : ns = [] := List.length_eq_zero_iff.mp h0
      subst h'
      refine ⟨7919 * (k + 1), mFn_ok ?_⟩
      simp [m_lcell, mulOk_l]
    · have h' : ¬ k < ns.length := by omega
      have hp : (0 : Int) < ns.length := by omega
      have e := fmod_ge' (a := k) hp
      have e2 := fmod_lt' (a := k) hp
      have h2 : ((k : Int).fmod ns.length).toNat < ns.length := by omega
      have h3 : ¬ ns = [] := by intro h; subst h; exact h0 rfl
      have h4 : ¬ ((ns.length : Int) = 0) := by omega
      refine ⟨ns[((k : Int).fmod ns.length).toNat] + 104729 * k, mFn_ok ?_⟩
      simp [m_lcell, h', h3, h4, atI_ge e, h2, mulOk_l]
theorem lmixed_ok (a b c : Int) : ∃ v : Int, f_lmixed [.int a, .int b, .int c] = .ok (.int v, []) := by
  unfold f_lmixed
  have e := fmod_ge' (a := b) (b := 8) (by decide)
  have e2 := fmod_lt' (a := b) (b := 8) (by decide)
  generalize hi : b.fmod 8 = i at e e2
  obtain ⟨p, hp, hp1, hp2⟩ : ∃ p : Int, atI [MV.int 2147483629, .int 2147483587, .int 2147483579, .int 2147483563, .int 2147483549, .int 2147483543, .int 2147483497, .int 2147483489] i = some (.int p) ∧ 0 < p ∧ p < 2147483648 := by
    obtain ⟨j, rfl⟩ := Int.eq_ofNat_of_zero_le e
    match j, e2 with
    | 0, _ => exact ⟨_, rfl, by decide, by decide⟩
    | 1, _ => exact ⟨_, rfl, by decide, by decide⟩
    | 2, _ => exact ⟨_, rfl, by decide, by decide⟩
    | 3, _ => exact ⟨_, rfl, by decide, by decide⟩
    | 4, _ => exact ⟨_, rfl, by decide, by decide⟩
    | 5, _ => exact ⟨_, rfl, by decide, by decide⟩
    | 6, _ => exact ⟨_, rfl, by decide, by decide⟩
    | 7, _ => exact ⟨_, rfl, by decide, by decide⟩
    | j + 8, h => exact absurd h (by omega)
  have b1 : ∀ x : Int, 0 ≤ x.fmod 2147483647 ∧ x.fmod 2147483647 < 2147483647 := fun x => ⟨fmod_ge' (by decide), fmod_lt' (by decide)⟩
  have b2 : ∀ x : Int, (x.fmod 2147483647).natAbs < 18446744073709551616 := fun x => by have := b1 x; omega
  have b3 : ∀ x : Int, mulOk (x.fmod 2147483647) 1000000007 = true := fun x => mulOk_r (by decide) (by decide)
  have h : ∃ v ρ, m_lmixed [some (.int a), some (.int b), some (.int c), none, none, none] = .ok (.rt (.int v), ρ) := by
    simp [m_lmixed, szOk_small, mulOk_l, hi, hp, hp1, Int.ne_of_gt hp1, b2, b3]
  obtain ⟨v, ρ, h⟩ := h
  exact ⟨v, mFn_ok ⟨ρ, h⟩⟩
def DrawsAre (ws ds : List Int) : Prop := ds.length = ws.length ∧ ∀ i (h : i < ws.length) (h' : i < ds.length), 0 ≤ ds[i] ∧ ds[i] < ws[i]
theorem ldraws_ok (cell salt : Int) (ws : List Int) (hn : ws.length < 1000) (hw : ∀ w ∈ ws, 0 < w ∧ divOk w = true) : ∃ ds : List Int, DrawsAre ws ds ∧ f_ldraws [.int cell, .int salt, .lst (ws.map .int)] = .ok (.own (ds.map .int), []) := by
  have key : ∀ l0 : Int, ∃ ρ', mLoop (gSet 5) b_ldraws_0 (rngM 0 1 ws.length) [some (.int cell), some (.int salt), some (.lst (ws.map .int)), some (.own []), some (.int l0), none] = .ok (.nx, ρ') ∧ ∃ ds l v, DrawsAre (ws.take ws.length) ds ∧ ρ' = [some (.int cell), some (.int salt), some (.lst (ws.map .int)), some (.own (ds.map .int)), some (.int l), v] := by
    intro l0
    refine loop_rng (fun i ρ => ∃ ds l v, DrawsAre (ws.take i) ds ∧ ρ = [some (.int cell), some (.int salt), some (.lst (ws.map .int)), some (.own (ds.map .int)), some (.int l), v]) ⟨[], l0, none, ⟨by simp, by simp⟩, rfl⟩ ?_
    rintro i ρ hi ⟨ds, l, v, ⟨hd1, hd2⟩, rfl⟩
    have hwi := hw ws[i] (List.getElem_mem hi)
    have hl : ds.length = i := by rw [hd1, List.length_take]; omega
    have ix : atI (ws.map MV.int) (i : Int) = some (.int ws[i]) := by rw [atI_ge (by omega)]; simp [hi]
    have ds' : ∀ d : Int, DrawsAre (ws.take (i + 1)) (ds ++ [d.fmod ws[i]]) := by
      intro d
      refine ⟨by simp [hl, List.length_take]; omega, fun j h h' => ?_⟩
      have hj : j ≤ i := by rw [List.length_take] at h; omega
      rw [List.getElem_take]
      by_cases e : j = i
      · subst e
        rw [List.getElem_append_right (by omega)]
        simp [hl]
        exact ⟨fmod_ge' hwi.1, fmod_lt' hwi.1⟩
      · have := hd2 j (by rw [List.length_take]; omega) (by omega)
        rw [List.getElem_append_left (by omega)]
        rw [List.getElem_take] at this
        exact this
    have hsz : ds.length < sizeLine := by rw [sizeLine_eq]; omega
    by_cases hp : 0 < l
    · refine ⟨[some (.int cell), some (.int salt), some (.lst (ws.map .int)), some (.own (ds.map .int)), some (.int l), some (.int i)], [some (.int cell), some (.int salt), some (.lst (ws.map .int)), some (.own ((ds ++ [l.fmod ws[i]]).map .int)), some (.int (l.fdiv ws[i])), some (.int i)], ?_, .inl ?_, ⟨_, _, _, ds' l, rfl⟩⟩
      · simp
      · simp [b_ldraws_0, hp, isOwn, ix, Int.ne_of_gt hwi.1, hsz, hwi.2]
    · obtain ⟨m, hm⟩ := lmixed_ok cell i salt
      refine ⟨[some (.int cell), some (.int salt), some (.lst (ws.map .int)), some (.own (ds.map .int)), some (.int l), some (.int i)], [some (.int cell), some (.int salt), some (.lst (ws.map .int)), some (.own ((ds ++ [m.fmod ws[i]]).map .int)), some (.int l), some (.int i)], ?_, .inl ?_, ⟨_, _, _, ds' m, rfl⟩⟩
      · simp
      · simp [b_ldraws_0, hp, isOwn, ix, hm, Int.ne_of_gt hwi.1, hsz]
  have e0 : inR (ws.length : Int) = true := inR_of (by omega) (by omega)
  unfold f_ldraws
  by_cases hc : (1000000000000000000 : Int) ≤ (if cell < 0 then -cell else cell)
  · obtain ⟨ρ', h, ds, l, v, hd, rfl⟩ := key (if cell < 0 then -cell else cell)
    refine ⟨ds, by simpa using hd, mFn_ok ?_⟩
    · simp [m_ldraws, szOk_small, hc, e0, h]
  · obtain ⟨ρ', h, ds, l, v, hd, rfl⟩ := key 0
    refine ⟨ds, by simpa using hd, mFn_ok ?_⟩
    · simp [m_ldraws, szOk_small, hc, e0, h]
theorem draws_nil {ds : List Int} : DrawsAre [] ds ↔ ds = [] := by
  constructor
  · intro h; exact List.length_eq_zero_iff.mp h.1
  · rintro rfl; exact ⟨rfl, by simp⟩
theorem draws_cons {w : Int} {ws ds : List Int} : DrawsAre (w :: ws) ds ↔ ∃ d r, ds = d :: r ∧ (0 ≤ d ∧ d < w) ∧ DrawsAre ws r := by
  constructor
  · intro h
    match ds, h with
    | [], h => exact absurd h.1 (by simp)
    | d :: r, h =>
      refine ⟨d, r, rfl, h.2 0 (by simp) (by simp), by simpa using h.1, fun i h1 h2 => ?_⟩
      exact h.2 (i + 1) (by simpa using h1) (by simpa using h2)
  · rintro ⟨d, r, rfl, h1, h2⟩
    refine ⟨by simpa using h2.1, fun i a b => ?_⟩
    match i with
    | 0 => exact h1
    | i + 1 => exact h2.2 i (by simpa using a) (by simpa using b)
theorem ppower_eq {b : Int} {k : Int} (hb : -(2 ^ 64) < b ∧ b < 2 ^ 64) (hk : k < 2 ^ 40) (hk0 : -(2 ^ 40) < k) : f_ppower [.int b, .int k] = .ok (.int (b ^ k.toNat), []) := by
  obtain ⟨ρ', e, h⟩ := loop_rng (g := gSet 3) (b := b_ppower_0) (lo := 0) (c := 1) (n := k.toNat) (ρ := [some (.int b), some (.int k), some (.int 1), none])
    (fun i ρ => ∃ v, ρ = [some (.int b), some (.int k), some (.int (b ^ i)), v]) ⟨none, by simp⟩ (by
      rintro i ρ hi ⟨v, rfl⟩
      simp [mulOk_r hb.1 hb.2, Int.pow_succ, b_ppower_0])
  obtain ⟨v, rfl⟩ := h
  refine mFn_ok ?_
  simp [m_ppower, inR_of (i := k) (by omega) (by omega), e]
theorem pten_eq {k : Int} (hk : k < 2 ^ 40) (hk0 : -(2 ^ 40) < k) : f_ppower [.int 10, .int k] = .ok (.int (10 ^ k.toNat), []) := ppower_eq (by decide) hk hk0
theorem lpower_eq {b : Int} {k : Int} (hb : -(2 ^ 64) < b ∧ b < 2 ^ 64) (hk : k < 2 ^ 40) (hk0 : -(2 ^ 40) < k) : f_lpower [.int b, .int k] = .ok (.int (b ^ k.toNat), []) := by
  obtain ⟨ρ', e, h⟩ := loop_rng (g := gSet 3) (b := b_lpower_0) (lo := 0) (c := 1) (n := k.toNat) (ρ := [some (.int b), some (.int k), some (.int 1), none])
    (fun i ρ => ∃ v, ρ = [some (.int b), some (.int k), some (.int (b ^ i)), v]) ⟨none, by simp⟩ (by
      rintro i ρ hi ⟨v, rfl⟩
      simp [mulOk_r hb.1 hb.2, Int.pow_succ, b_lpower_0])
  obtain ⟨v, rfl⟩ := h
  refine mFn_ok ?_
  simp [m_lpower, inR_of (i := k) (by omega) (by omega), e]
theorem lten_eq {k : Int} (hk : k < 2 ^ 40) (hk0 : -(2 ^ 40) < k) : f_lpower [.int 10, .int k] = .ok (.int (10 ^ k.toNat), []) := lpower_eq (by decide) hk hk0
def Form (kd : Str) (n : Nat) (sg : Str) (p : MV) : MV := .tup [.str kd, .int n, .str sg, p]
def least (n : Nat) (sg : Str) : Int := if sg = "none" then 0 else if sg = "end" then 1 - 10 ^ n else -5 * 10 ^ (n - 1)
def most (n : Nat) (sg : Str) : Int := if sg = "tens" then 5 * 10 ^ (n - 1) - 1 else 10 ^ n - 1
theorem sg_ne1 : ¬ (("end" : Str) = "none") := by decide
theorem sg_ne2 : ¬ (("tens" : Str) = "none") := by decide
theorem sg_ne3 : ¬ (("tens" : Str) = "end") := by decide
theorem sg_ne4 : ¬ (("none" : Str) = "tens") := by decide
theorem sg_ne5 : ¬ (("end" : Str) = "tens") := by decide
theorem sg_ne6 : ¬ (("none" : Str) = "end") := by decide
section
variable {kd sg : Str} {n : Nat} {p : MV}
theorem at1 {a b c d : MV} : atI [a, b, c, d] 1 = some b := rfl
theorem at2 {a b c d : MV} : atI [a, b, c, d] 2 = some c := rfl
theorem ten_half (hn : 1 ≤ n) : ((10 : Int) ^ n).fdiv 2 = 5 * 10 ^ (n - 1) := by
  obtain ⟨k, rfl⟩ : ∃ k, n = k + 1 := ⟨n - 1, by omega⟩
  rw [Int.pow_succ, Nat.add_sub_cancel, show (10 : Int) ^ k * 10 = 2 * (5 * 10 ^ k) by omega, Int.mul_fdiv_cancel_left _ (by decide)]
theorem ten_pos (n : Nat) : (0 : Int) < 10 ^ n := Int.pow_pos (by decide)
theorem lends_eq (hn : 1 ≤ n) (h : n < 100) (hs : sg = "none" ∨ sg = "end" ∨ sg = "tens") : f_lends [Form kd n sg p] = .ok (.tup [.int (least n sg), .int (most n sg)], []) := by
  refine mFn_ok ?_
  rcases hs with rfl | rfl | rfl
  · simp [m_lends, Form, at2, at1, least, most, sg_ne4, lten_eq (k := n) (by omega) (by omega), szOk_small]
  · simp [m_lends, Form, at2, at1, least, most, sg_ne1, sg_ne5, lten_eq (k := n) (by omega) (by omega), szOk_small]
  · simp [m_lends, Form, at2, at1, least, most, sg_ne2, sg_ne3, lten_eq (k := n) (by omega) (by omega), szOk_small, ten_half hn, divOk]
    omega
end
def pairUp : List Nat → List Nat
  | a :: b :: r => (16 * a + b) :: pairUp r
  | _ => []
theorem pairUp_len : ∀ (q : Nat) (h : List Nat), h.length = 2 * q → (pairUp h).length = q
  | 0, h, e => by
    have : h = [] := List.length_eq_zero_iff.mp (by omega)
    subst this; rfl
  | q + 1, [], e => by simp at e
  | q + 1, [a], e => by simp at e; omega
  | q + 1, a :: b :: r, e => by
    show (pairUp r).length + 1 = q + 1
    rw [pairUp_len q r (by simp at e; omega)]
theorem pairUp_get : ∀ (q : Nat) (h : List Nat), h.length = 2 * q → pairUp h = (List.range q).map fun i => 16 * h.getD (2 * i) 0 + h.getD (2 * i + 1) 0
  | 0, h, e => by
    have : h = [] := List.length_eq_zero_iff.mp (by omega)
    subst this; rfl
  | q + 1, [], e => by simp at e
  | q + 1, [a], e => by simp at e; omega
  | q + 1, a :: b :: r, e => by
    rw [List.range_succ_eq_map, List.map_cons, List.map_map]
    show _ :: pairUp r = _
    rw [pairUp_get q r (by simp at e; omega)]
    congr 1
theorem rg_two (q : Nat) (hq : q < 1000000) : rgOk 0 (2 * q : Nat) 2 = true ∧ (Builtin.Range.rangeSize 0 (2 * q : Nat) 2).toNat = q := by
  have e : Builtin.Range.rangeSize 0 (2 * q : Nat) 2 = q := by
    unfold Builtin.Range.rangeSize
    rw [if_pos (by decide)]
    split <;> omega
  refine ⟨?_, by rw [e]; rfl⟩
  unfold rgOk
  rw [e]
  have e1 : Builtin.Range.small 0 (2 * q : Nat) 2 = true := by
    unfold Builtin.Range.small
    rw [e]
    simp [Builtin.Range.rangeFitsLong]
    omega
  rw [e1]
  simp
theorem pairs_comp {ρ : Env} {s v : Nat} {h : List Nat} {q : Nat} {a : MA} (hq : q < 1000000) (hl : h.length = 2 * q) (ha : (mR3 a) ρ = .ok (rngM 0 2 q, ρ)) (hs : ρ[s]? = some (some (.lst (h.map fun d : Nat => MV.int d)))) (hv : ρ[v]? = some none) (hsv : s ≠ v) :
    mLcO (mR3 a) (.nm v) (mYes) (mOp fAdd (mOp fMul (mC (.int 16)) (mOp fIx (mVar s) (mVar v))) (mOp fIx (mVar s) (mOp fAdd (mVar v) (mC (.int 1))))) [v] ρ = .ok (.own ((pairUp h).map fun d : Nat => MV.int d), ρ) := by
  rw [pairUp_get q h hl]
  have e : ((List.range q).map fun i => 16 * h.getD (2 * i) 0 + h.getD (2 * i + 1) 0).map (fun d : Nat => MV.int d) = (rngM 0 2 q).map fun x => match x with | .int k => MV.int ((16 * h.getD k.toNat 0 + h.getD (k.toNat + 1) 0 : Nat) : Int) | _ => .non := by
    unfold rngM
    rw [List.map_map, List.map_map]
    refine List.map_congr_left fun i _ => ?_
    show MV.int _ = MV.int _
    have z : (0 + (i : Int) * 2).toNat = 2 * i := by omega
    rw [z]
  rw [e]
  have lv : v < ρ.length := by
    by_cases z : v < ρ.length
    · exact z
    · rw [List.getElem?_eq_none (by omega)] at hv; cases hv
  refine mLcO_map _ ha (by simp [perAt, hv]) ?_ (by rw [rngM_len, sizeLine_eq]; omega)
  intro x hx
  obtain ⟨i, hi, rfl⟩ : ∃ i, i < q ∧ MV.int (0 + (i : Int) * 2) = x := by simpa [rngM] using hx
  have w : wipeM ρ [v] = ρ := by
    show ρ.set v none = ρ
    apply List.ext_getElem?
    intro j
    by_cases e : v = j
    · subst e; rw [List.getElem?_set_self lv, hv]
    · rw [List.getElem?_set_ne e]
  rw [w]
  refine ⟨ρ.set v (some (.int (0 + (i : Int) * 2))), by simp [setT, lv], ?_, ?_, by simp⟩
  · generalize hk : (0 + (i : Int) * 2) = k
    have g1 : (ρ.set v (some (MV.int k)))[s]? = some (some (.lst (h.map fun d : Nat => MV.int d))) := by rw [List.getElem?_set_ne (Ne.symm hsv)]; exact hs
    have g2 : (ρ.set v (some (MV.int k)))[v]? = some (some (MV.int k)) := List.getElem?_set_self lv
    generalize ρ.set v (some (MV.int k)) = ρ1 at g1 g2
    have z : k.toNat = 2 * i := by omega
    have a1 : atI (h.map fun d : Nat => MV.int d) k = some (.int (h.getD (2 * i) 0)) := by
      rw [atI_ge (by omega), z]
      simp [show 2 * i < h.length by omega]
    have a2 : atI (h.map fun d : Nat => MV.int d) (k + 1) = some (.int (h.getD (2 * i + 1) 0)) := by
      rw [atI_ge (by omega), show (k + 1).toNat = 2 * i + 1 by omega]
      simp [show 2 * i + 1 < h.length by omega]
    show _ = Res.ok (MV.int ((16 * h.getD k.toNat 0 + h.getD (k.toNat + 1) 0 : Nat) : Int), ρ1)
    rw [z]
    generalize h.getD (2 * i) 0 = p1 at *
    generalize h.getD (2 * i + 1) 0 = p2 at *
    cases ρ1 with
    | nil => simp at g1
    | cons r ρ1 => simp [g1, g2, a1, a2, mulOk_l]
  · show (ρ.set v _).set v none = ρ
    rw [List.set_set]
    exact w
def sizeM (n : Nat) (sg : Str) (x : Int) : Nat := if sg = "tens" then (x.fmod (10 ^ n)).natAbs else x.natAbs
def inter (zs fs : List Nat) : List Nat := (List.zipWith (fun z f => [z, f]) zs fs).flatten
def manyM (n : Nat) (sg : Str) : Nat := n + if sg = "end" then 1 else 0
theorem inter_len : ∀ (zs fs : List Nat), zs.length = fs.length → (inter zs fs).length = 2 * fs.length
  | [], [], _ => rfl
  | z :: zs, f :: fs, h => by
    show ([z, f] ++ inter zs fs).length = _
    rw [List.length_append, inter_len zs fs (by simpa using h)]
    simp; omega
  | [], _ :: _, h => by simp at h
  | _ :: _, [], h => by simp at h
theorem inter_pair : ∀ (zs fs : List Nat), zs.length = fs.length → pairUp (inter zs fs) = List.zipWith (fun z f => 16 * z + f) zs fs
  | [], [], _ => rfl
  | z :: zs, f :: fs, h => by
    show (16 * z + f) :: pairUp (inter zs fs) = _
    rw [inter_pair zs fs (by simpa using h)]
    rfl
  | [], _ :: _, h => by simp at h
  | _ :: _, [], h => by simp at h
theorem many_even (m : Nat) : m % 2 + m = 2 * ((m + 1) / 2) := by omega
section
variable {kd sg : Str} {n : Nat} {p : MV}
theorem phalves_of_eq : f_phalves_of [Form kd n sg p] = .ok (.tup [.int (manyM n sg + manyM n sg % 2 : Nat), .int (manyM n sg % 2 : Nat)], []) := by
  refine mFn_ok ?_
  have e : ((manyM n sg : Nat) : Int).fmod 2 = (manyM n sg % 2 : Nat) := nat_fmod _ 2
  unfold Form
  by_cases h : sg = "end"
  · have z : (n : Int) + 1 = (manyM n sg : Nat) := by simp [manyM, h]
    subst h
    simp [m_phalves_of, z, e, szOk_small]
  · have z : (n : Int) + 0 = (manyM n sg : Nat) := by simp [manyM, h]
    have z' : (n : Int) = (manyM n sg : Nat) := by simp [manyM, h]
    simp [m_phalves_of, h, szOk_small]
    rw [z', e]
    simp
theorem abs_nat (x : Int) : (if x < 0 then -x else x) = (x.natAbs : Int) := by split <;> omega
end
section
variable {kd sg : Str} {n : Nat} {p : MV}
theorem spread_ne : ¬ (("spread" : Str) = "packed") := by decide
theorem ixN_neg2 {k : Nat} (h : 1 ≤ k) : ixN (2 * k) (-2) = some (2 * (k - 1)) := by
  unfold ixN
  rw [if_neg (by decide), if_pos (by omega)]
  congr 1
  omega
theorem map_set {α β : Type} (f : α → β) (l : List α) (k : Nat) (v : α) : (l.set k v).map f = (l.map f).set k (f v) := List.map_set ..
end
section
variable {kd sg : Str} {n : Nat} {p : MV}
def roomM (kd sg : Str) (n : Nat) : Nat := if kd = "packed" then (manyM n sg + 1) / 2 else n
theorem room_small (h : n < 100) : roomM kd sg n < 1000 := by
  unfold roomM manyM
  split <;> (try split) <;> omega
end
section
variable {kd sg : Str} {n : Nat} {p : MV}
theorem lfig_loop (m k : Nat) (hk : k < 1000) (a b e : Option MV) : ∃ e', mLoop (gSet 4) b_lfigures_0 (rngM 0 1 k) [a, b, some (.int m), some (.own []), e] = .ok (.nx, [a, b, some (.int (m / 10 ^ k : Nat)), some (.own ((digs k m).map fun d : Nat => MV.int d)), e']) := by
  obtain ⟨ρ', h, v, rfl⟩ := loop_nxr (g := gSet 4) (b := b_lfigures_0) (lo := 0) (c := 1) (n := k) (ρ := [a, b, some (.int m), some (.own []), e])
    (fun i ρ => ∃ v, ρ = [a, b, some (.int (m / 10 ^ i : Nat)), some (.own ((digs i m).map fun d : Nat => MV.int d)), v]) ⟨e, by simp [digs]⟩ (by
      rintro i ρ hi ⟨v, rfl⟩
      have hz : (digs i m).length < sizeLine := by rw [sizeLine_eq, digs_len]; omega
      have h1 : ((m / 10 ^ i : Nat) : Int).fmod 10 = ((m / 10 ^ i % 10 : Nat) : Int) := nat_fmod _ 10
      have h2 : ((m / 10 ^ i : Nat) : Int).fdiv 10 = ((m / 10 ^ (i + 1) : Nat) : Int) := by rw [Nat.pow_succ, ← Nat.div_div_eq_div_mul]; exact nat_fdiv _ 10
      generalize hq : m / 10 ^ i = q at h1 h2
      generalize hq2 : m / 10 ^ (i + 1) = q2 at h2
      have h3 : digs (i + 1) m = digs i m ++ [q % 10] := by rw [digs_append, hq]
      simp [b_lfigures_0, hz, divOk, h1, h2, h3])
  exact ⟨v, h⟩
theorem fmod_nat (x : Int) (n : Nat) : x.fmod (10 ^ n) = ((x.fmod (10 ^ n)).natAbs : Int) := by
  have := fmod_ge' (a := x) (ten_pos n)
  omega
theorem lfigures_eq (h1 : 1 ≤ n ∧ n < 100) (x : Int) : f_lfigures [Form kd n sg p, .int x] = .ok (.lst ((digsB n (sizeM n sg x)).map fun d : Nat => MV.int d), []) := by
  refine mFn_ok ?_
  have t1 := lten_eq (k := (n : Int)) (by omega) (by omega)
  simp at t1
  have hp := ten_pos n
  have hpz : ¬ ((10 : Int) ^ n = 0) := by omega
  have a1 := abs_nat x
  have ir : inR (n : Int) = true := inR_of (by omega) (by omega)
  by_cases hs : sg = "tens"
  · subst hs
    have z := fmod_nat x n
    obtain ⟨e', l⟩ := lfig_loop (x.fmod (10 ^ n)).natAbs n (by omega) (some (Form kd n "tens" p)) (some (.int x)) none
    rw [← z] at l
    unfold Form at l
    simp [m_lfigures, Form, t1, hpz, a1, ir, szOk_small, l, sizeM, digsB]
  · obtain ⟨e', l⟩ := lfig_loop x.natAbs n (by omega) (some (Form kd n sg p)) (some (.int x)) none
    unfold Form at l
    simp [m_lfigures, Form, hs, t1, hpz, a1, ir, szOk_small, l, sizeM, digsB]
theorem lby_halves_eq (h : List Nat) (q : Nat) (hq : q < 1000) (hl : h.length = 2 * q) : f_lby_halves [.lst (h.map fun d : Nat => MV.int d)] = .ok (.tup ((pairUp h).map fun d : Nat => MV.int d), []) := by
  refine mFn_ok ?_
  have g := rg_two q (by omega)
  have c := pairs_comp (ρ := [some (.lst (h.map fun d : Nat => MV.int d)), none]) (s := 0) (v := 1) (h := h) (q := q) (a := mCons (mC (.int 0)) (mCons (mBlt bLen (mCons (mVar 0) (mNil))) (mCons (mC (.int 2)) (mNil)))) (by omega) hl (by
    have g1 := g.1
    have g2 := g.2
    simp at g1 g2
    simp [hl, g1, g2]) rfl rfl (by decide)
  simp [m_lby_halves, c]
theorem zip_comp {zs fs : List Nat} (hz : zs.length ≤ 1000) (a b c : Option MV) : mLcO (mZip (mCons (mVar 4) (mCons (mVar 3) (mNil)))) (.tp [5, 6]) (mYes) (mOp fAdd (mOp fMul (mC (.int 16)) (mVar 5)) (mVar 6)) [5, 6] [a, b, c, some (.lst (fs.map fun d : Nat => MV.int d)), some (.own (zs.map fun d : Nat => MV.int d)), none, none] =
    .ok (.own ((List.zipWith (fun z f => 16 * z + f) zs fs).map fun d : Nat => MV.int d), [a, b, c, some (.lst (fs.map fun d : Nat => MV.int d)), some (.lst (zs.map fun d : Nat => MV.int d)), none, none]) := by
  have e1 : (List.zipWith (fun z f => 16 * z + f) zs fs).map (fun d : Nat => MV.int d) = (zipM (zs.map fun d : Nat => MV.int d) (fs.map fun d : Nat => MV.int d)).map fun x => match x with | .tup [.int z, .int f] => MV.int (16 * z + f) | _ => .non := by
    unfold zipM
    rw [List.map_zipWith, List.zipWith_map, List.map_zipWith]
    congr 1
  rw [e1]
  refine mLcO_map _ (by simp) (by simp [perAt]) ?_ (by rw [zipM_len, sizeLine_eq]; simp; omega)
  intro x hx
  obtain ⟨z, f, rfl⟩ : ∃ z f : Int, x = .tup [.int z, .int f] := by
    obtain ⟨i, hi, rfl⟩ := List.getElem_of_mem hx
    simp [zipM]
  exact ⟨_, by simp [setT, setAll, wipeM]; rfl, by simp [mulOk_l], by simp [wipeM], by simp⟩
theorem ixN_neg1 {k : Nat} (h : 1 ≤ k) : ixN k (-1) = some (k - 1) := by
  unfold ixN
  rw [if_neg (by decide), if_pos (by omega)]
  congr 1
  omega
end
section
variable {kd sg : Str} {n : Nat} {p : MV}
theorem packed_ne : ¬ (("packed" : Str) = "spread") := by decide
end
theorem pairUp_lt : ∀ h : List Nat, (∀ d ∈ h, d < 16) → ∀ b ∈ pairUp h, b < 256
  | [], _, b, hb => by simp [pairUp] at hb
  | [_], _, b, hb => by simp [pairUp] at hb
  | x :: y :: r, h, b, hb => by
    have h1 := h x (by simp)
    have h2 := h y (by simp)
    rcases List.mem_cons.mp (show b ∈ (16 * x + y) :: pairUp r from hb) with rfl | hb
    · omega
    · exact pairUp_lt r (fun d hd => h d (by simp [hd])) b hb
theorem inter_lt : ∀ (zs fs : List Nat), (∀ d ∈ zs, d < 16) → (∀ d ∈ fs, d < 16) → ∀ d ∈ inter zs fs, d < 16
  | [], _, _, _, d, h => by simp [inter] at h
  | _ :: _, [], _, _, d, h => by simp [inter] at h
  | z :: zs, f :: fs, hz, hf, d, h => by
    have h : d ∈ z :: f :: inter zs fs := h
    rcases List.mem_cons.mp h with rfl | h
    · exact hz _ (by simp)
    · rcases List.mem_cons.mp h with rfl | h
      · exact hf _ (by simp)
      · exact inter_lt zs fs (fun e he => hz e (by simp [he])) (fun e he => hf e (by simp [he])) d h
theorem least_le {n : Nat} {sg : Str} (h : 1 ≤ n) : least n sg ≤ most n sg := by
  have hp := ten_pos n
  have hp2 := ten_pos (n - 1)
  have h10 : (10 : Int) ^ n = 10 * 10 ^ (n - 1) := by
    obtain ⟨k, rfl⟩ : ∃ k, n = k + 1 := ⟨n - 1, by omega⟩
    rw [Int.pow_succ, Nat.add_sub_cancel, Int.mul_comm]
  unfold least most
  by_cases h1 : sg = "none"
  · subst h1; simp [sg_ne4]; omega
  · by_cases h2 : sg = "end"
    · subst h2; simp [sg_ne1, sg_ne5]; omega
    · by_cases h3 : sg = "tens"
      · subst h3; simp [sg_ne2, sg_ne3]; omega
      · simp [h1, h2, h3]; omega
theorem lnumber_ok {kd sg : Str} {n : Nat} {p : MV} (h1 : 1 ≤ n ∧ n < 100) (hs : sg = "none" ∨ sg = "end" ∨ sg = "tens") (way far : Int) (hw : 0 ≤ way) : ∃ x : Int, (least n sg ≤ x ∧ x ≤ most n sg) ∧ f_lnumber [Form kd n sg p, .int way, .int far] = .ok (.int x, []) := by
  have hle := @least_le n sg h1.1
  have e1 := @lends_eq kd sg n p h1.1 h1.2 hs
  unfold Form at e1
  generalize hlo : least n sg = lo at *
  generalize hhi : most n sg = hi at *
  have q1 := fmod_ge' (a := far) (b := (n : Int)) (by omega)
  have q2 := fmod_lt' (a := far) (b := (n : Int)) (by omega)
  have l1 := lten_eq (k := far.fmod n) (by omega) (by omega)
  have hpz := ten_pos (far.fmod n).toNat
  generalize (10 : Int) ^ (far.fmod n).toNat = q at l1 hpz
  have hn0 : ¬ n = 0 := by omega
  have key : ∃ x : Int, (lo ≤ x ∧ x ≤ hi) ∧ ∃ ρ : Env, m_lnumber [some (Form kd n sg p), some (.int way), some (.int far), none, none, none, none, none] = .ok (.rt (.int x), ρ) := by
    by_cases h9 : 9 < way
    · have r1 := fmod_ge' (a := far) (b := hi - lo + 1) (by omega)
      have r2 := fmod_lt' (a := far) (b := hi - lo + 1) (by omega)
      have hz : ¬ hi - lo + 1 = 0 := by omega
      refine ⟨lo + far.fmod (hi - lo + 1), by omega, ?_⟩
      simp [m_lnumber, Form, e1, h9, hz]
    · obtain ⟨j, hj⟩ : ∃ j : Int, atI [MV.int 0, .int 1, .int hi, .int lo, .int q, .int (q - 1), .int (5 * q), .int (9 * q), .int (q + 1), .int ((far.fdiv 16).fmod (10 * q))] way = some (.int j) := by
        rcases (show way = 0 ∨ way = 1 ∨ way = 2 ∨ way = 3 ∨ way = 4 ∨ way = 5 ∨ way = 6 ∨ way = 7 ∨ way = 8 ∨ way = 9 by omega) with rfl | rfl | rfl | rfl | rfl | rfl | rfl | rfl | rfl | rfl <;> exact ⟨_, rfl⟩
      have hz : ¬ 10 * q = 0 := by omega
      have hsz : (9 : Nat) < sizeLine := by rw [sizeLine_eq]; omega
      have hd1 : divOk 16 = true := by decide
      have hd2 : divOk 13 = true := by decide
      have cl : ∀ y : Int, lo ≤ (if (if y < hi then y else hi) > lo then (if y < hi then y else hi) else lo) ∧ (if (if y < hi then y else hi) > lo then (if y < hi then y else hi) else lo) ≤ hi := fun y => by
        split <;> split <;> omega
      by_cases hc : lo < 0 ∧ (far.fdiv 13).fmod 2 = 1
      · refine ⟨_, cl (0 - j), ?_⟩
        simp [m_lnumber, Form, e1, h9, l1, hn0, szOk_small, mulOk_l, hz, hsz, hd1, hd2, hj, hc.1, hc.2, ixV, ixL]
      · refine ⟨_, cl j, ?_⟩
        by_cases hc1 : lo < 0
        · have hc2 : ¬ (far.fdiv 13).fmod 2 = 1 := fun z => hc ⟨hc1, z⟩
          simp [m_lnumber, Form, e1, h9, l1, hn0, szOk_small, mulOk_l, hz, hsz, hd1, hd2, hj, hc1, hc2, ixV, ixL]
        · simp [m_lnumber, Form, e1, h9, l1, hn0, szOk_small, mulOk_l, hz, hsz, hd1, hd2, hj, hc1, ixV, ixL]
  obtain ⟨x, hx, ρ, h⟩ := key
  exact ⟨x, hx, mFn_ok ⟨ρ, h⟩⟩
def halvesOf (row : List Nat) : List Nat := (row.map fun b => [b / 16, b % 16]).flatten
theorem halvesOf_len (row : List Nat) : (halvesOf row).length = 2 * row.length := by
  unfold halvesOf
  induction row with
  | nil => rfl
  | cons b r ih => simp [List.length_append] at ih ⊢; omega
theorem halvesOf_lt (row : List Nat) (h : ∀ b ∈ row, b < 256) : ∀ d ∈ halvesOf row, d < 16 := by
  intro d hd
  unfold halvesOf at hd
  simp only [List.mem_flatten, List.mem_map] at hd
  obtain ⟨l, ⟨b, hb, rfl⟩, hd⟩ := hd
  have := h b hb
  simp at hd
  omega
theorem phalves_in_eq (row : List Nat) (hl : row.length ≤ 1000000) : f_phalves_in [.tup (row.map fun d : Nat => MV.int d)] = .ok (.own ((halvesOf row).map fun d : Nat => MV.int d), []) := by
  refine mFn_ok ?_
  obtain ⟨⟨z', h⟩, _⟩ := loop_junk (σ := List Nat) (β := Option MV) (g := gSet 2) (b := b_phalves_in_0) (fun s z => [some (.tup (row.map fun d : Nat => MV.int d)), some (.own (s.map fun d : Nat => MV.int d)), z]) (fun d : Nat => MV.int d) (fun s b => s ++ [b / 16, b % 16]) (fun k s => s.length = 2 * k) row [] none rfl (by
    intro i s z x hx hi hlt
    have hz : s.length + 2 ≤ sizeLine := by rw [sizeLine_eq]; omega
    refine ⟨by simp [hi]; omega, _, by simp; rfl, some (.int x), ?_⟩
    have hz' := szOk_iff.mpr hz
    have h1 : (x : Int).fdiv 16 = ((x / 16 : Nat) : Int) := nat_fdiv _ 16
    have h2 : (x : Int).fmod 16 = ((x % 16 : Nat) : Int) := nat_fmod _ 16
    generalize x / 16 = q1 at *
    generalize x % 16 = q2 at *
    simp [b_phalves_in_0, lmExtend, szOk_small, hz, hz', isOwn, divOk, h1, h2])
  have e1 : ∀ (l : List Nat) (acc : List Nat), l.foldl (fun s b => s ++ [b / 16, b % 16]) acc = acc ++ halvesOf l := by
    intro l
    induction l with
    | nil => intro acc; simp [halvesOf]
    | cons x l ih => intro acc; rw [List.foldl_cons, ih]; simp [halvesOf]
  rw [e1, List.nil_append] at h
  simp [m_phalves_in, szOk_small] at h ⊢
  simp [h]
def interG {α : Type} (zs fs : List α) : List α := (List.zipWith (fun z f => [z, f]) zs fs).flatten
theorem interG_cons {α : Type} (z f : α) (zs fs : List α) : interG (z :: zs) (f :: fs) = z :: f :: interG zs fs := rfl
theorem interG_len {α : Type} : ∀ (zs fs : List α), zs.length = fs.length → (interG zs fs).length = 2 * fs.length
  | [], [], _ => rfl
  | z :: zs, f :: fs, h => by
    rw [interG_cons, List.length_cons, List.length_cons, interG_len zs fs (by simpa using h)]
    simp; omega
  | [], _ :: _, h => by simp at h
  | _ :: _, [], h => by simp at h
theorem interG_set {α : Type} : ∀ (zs fs : List α) (k : Nat) (v : α), zs.length = fs.length → k < zs.length → (interG zs fs).set (2 * k) v = interG (zs.set k v) fs
  | [], [], k, v, _, hk => by simp at hk
  | z :: zs, f :: fs, 0, v, _, _ => rfl
  | z :: zs, f :: fs, k + 1, v, h, hk => by
    rw [interG_cons, show 2 * (k + 1) = 2 * k + 1 + 1 by omega, List.set_cons_succ, List.set_cons_succ, interG_set zs fs k v (by simpa using h) (by simpa using hk)]
    rfl
  | [], _ :: _, _, _, h, _ => by simp at h
  | _ :: _, [], _, _, h, _ => by simp at h
theorem interG_rep {α : Type} (z f : α) : ∀ n : Nat, (List.replicate n [z, f]).flatten = interG (List.replicate n z) (List.replicate n f)
  | 0 => rfl
  | n + 1 => by
    rw [List.replicate_succ, List.flatten_cons, interG_rep z f n]
    rfl
theorem interG_map {α β : Type} (g : α → β) : ∀ (zs fs : List α), (interG zs fs).map g = interG (zs.map g) (fs.map g)
  | [], fs => by cases fs <;> rfl
  | z :: zs, [] => rfl
  | z :: zs, f :: fs => by
    rw [interG_cons, List.map_cons, List.map_cons, interG_map g zs fs]
    rfl
def zoneD (n : Nat) (sg : Str) : List Str := if sg = "end" then (List.replicate n ("zone" : Str)).set (n - 1) "sign" else List.replicate n "zone"
def dutiesM (kd sg : Str) (n : Nat) : List Str := if kd = "packed" then List.replicate (manyM n sg % 2) ("ahead" : Str) ++ List.replicate n ("figure" : Str) ++ (if sg = "end" then [("sign" : Str)] else []) else interG (zoneD n sg) (List.replicate n ("figure" : Str))
theorem zoneD_len (n : Nat) (sg : Str) : (zoneD n sg).length = n := by unfold zoneD; split <;> simp
theorem duties_len (kd sg : Str) (n : Nat) : (dutiesM kd sg n).length = 2 * roomM kd sg n := by
  unfold dutiesM roomM
  split
  · rw [← many_even]
    by_cases h : sg = "end"
    · simp [h, manyM, Nat.add_assoc]
    · simp [h, manyM]
  · rw [interG_len _ _ (by rw [zoneD_len, List.length_replicate])]; simp
theorem pduties_eq {kd sg : Str} {n : Nat} {p : MV} (hk : kd = "packed" ∨ kd = "spread") (h1 : 1 ≤ n ∧ n < 100) : ∃ V, fz V = some (.lst ((dutiesM kd sg n).map MV.str)) ∧ f_pduties [Form kd n sg p] = .ok (V, []) := by
  have r1 := @fMul_1 (.str "figure") n (by omega)
  have hm : manyM n sg % 2 < 2 := Nat.mod_lt _ (by decide)
  have r0 := @fMul_1 (.str "ahead") (manyM n sg % 2) (by omega)
  simp at r0
  have ho := @phalves_of_eq kd sg n p
  unfold Form at ho
  simp at ho
  rcases hk with rfl | rfl
  · refine ⟨.lst _, rfl, mFn_ok ?_⟩
    have s1 : szOk (manyM n sg % 2 + n) = true := szOk_small (by omega)
    have s2 : szOk (manyM n sg % 2 + n + 1) = true := szOk_small (by omega)
    by_cases he : sg = "end"
    · subst he
      simp [m_pduties, Form, ho, r0, r1, szOk_small, s1, s2, dutiesM]
    · simp [m_pduties, Form, ho, r0, r1, szOk_small, s1, s2, dutiesM, he]
  · refine ⟨.own _, rfl, mFn_ok ?_⟩
    have r2 : fMultL (.lst [.str "zone", .str "figure"]) (.int n) = some (interG ((List.replicate n ("zone" : Str)).map MV.str) ((List.replicate n ("figure" : Str)).map MV.str)) := by
      rw [fMultL_l (by omega) (by omega) (szOk_small (by simp; omega))]
      simp only [Int.toNat_natCast]
      rw [interG_rep, List.map_replicate, List.map_replicate]
    have dm : ∀ zs : List Str, (interG zs (List.replicate n ("figure" : Str))).map MV.str = interG (zs.map MV.str) ((List.replicate n ("figure" : Str)).map MV.str) := fun zs => interG_map _ _ _
    by_cases he : sg = "end"
    · subst he
      have z3 : ∀ ρ : Env, ρ[1]? = some (some (.own (interG ((List.replicate n ("zone" : Str)).map MV.str) ((List.replicate n ("figure" : Str)).map MV.str)))) → setIxM 1 (.str "sign") (.int (-2)) ρ = .ok (.nx, ρ.set 1 (some (.own ((dutiesM "spread" "end" n).map MV.str)))) := fun ρ h => by
        rw [setIxM_o h (j := 2 * (n - 1)) (by rw [interG_len _ _ (by simp)]; simp only [List.length_map, List.length_replicate]; exact ixN_neg2 h1.1), interG_set _ _ _ _ (by simp) (by simp; omega)]
        unfold dutiesM zoneD
        rw [if_neg spread_ne, if_pos rfl, dm, List.map_set]
      simp only [List.map_replicate] at r2 z3
      simp [m_pduties, Form, spread_ne, szOk_small, r2, z3]
    · have : (dutiesM "spread" sg n).map MV.str = interG ((List.replicate n ("zone" : Str)).map MV.str) ((List.replicate n ("figure" : Str)).map MV.str) := by
        unfold dutiesM zoneD
        rw [if_neg spread_ne, if_neg he, dm]
      rw [this]
      simp only [List.map_replicate] at r2 ⊢
      simp [m_pduties, Form, spread_ne, szOk_small, r2, he]
def rightM (d : Str) (h : Nat) : Bool := if d = "ahead" then decide (h = 0) else if d = "figure" then decide (h < 10) else if d = "zone" then decide (h = 15) else decide (9 < h)
def scanM (due : List Str) : Nat → List Nat → Option (Nat × Str)
  | _, [] => none
  | k, h :: hs => if due.length ≤ k then some (k, "length") else if rightM (due.getD k "") h then scanM due (k + 1) hs else some (k, due.getD k "")
def caughtM (due : List Str) (hs : List Nat) : Option (Nat × Str) := match scanM due 0 hs with
  | some r => some r
  | none => if hs.length < due.length then some (hs.length, "length") else none
def encR (r : Nat × Str) : MV := .tup [.int r.1, .str r.2]
def encO : Option (Nat × Str) → MV
  | some r => encR r
  | none => .non
theorem phalf_right_eq (d : Str) (h : Nat) : f_phalf_right [.str d, .int h] = .ok (.bl (rightM d h), []) := by
  refine mFn_ok ?_
  unfold rightM
  by_cases h1 : d = "ahead"
  · subst h1; simp [m_phalf_right]
  · by_cases h2 : d = "figure"
    · subst h2; simp [m_phalf_right, h1]; omega
    · by_cases h3 : d = "zone"
      · subst h3; simp [m_phalf_right, h1, h2]; omega
      · simp [m_phalf_right, h1, h2, h3]; omega
theorem due_at {due : List Str} {k : Nat} (h : k < due.length) : atI (due.map MV.str) (k : Int) = some (.str (due.getD k "")) := by
  rw [atI_ge (by omega)]
  simp [h]
theorem caught_loop (due : List Str) (a b c : Option MV) : ∀ (hs : List Nat) (k : Nat) (e f : Option MV), match scanM due k hs with
    | some r => ∃ ρ', mLoop (gTp 2 (gsCons (gSet 4) (gsCons (gSet 5) gsNil))) b_pcaught_0 (enumFrom k (hs.map fun d : Nat => MV.int d)) [a, b, some (.lst (due.map MV.str)), c, e, f] = .ok (.rt (encR r), ρ')
    | none => ∃ e' f', mLoop (gTp 2 (gsCons (gSet 4) (gsCons (gSet 5) gsNil))) b_pcaught_0 (enumFrom k (hs.map fun d : Nat => MV.int d)) [a, b, some (.lst (due.map MV.str)), c, e, f] = .ok (.nx, [a, b, some (.lst (due.map MV.str)), c, e', f'])
  | [], k, e, f => ⟨e, f, rfl⟩
  | h :: hs, k, e, f => by
    unfold scanM
    have step : mLoop (gTp 2 (gsCons (gSet 4) (gsCons (gSet 5) gsNil))) b_pcaught_0 (enumFrom k ((h :: hs).map fun d : Nat => MV.int d)) [a, b, some (.lst (due.map MV.str)), c, e, f] =
      (b_pcaught_0 [a, b, some (.lst (due.map MV.str)), c, some (.int k), some (.int h)]).bind fun f' ρ2 => match f' with
        | .nx => mLoop (gTp 2 (gsCons (gSet 4) (gsCons (gSet 5) gsNil))) b_pcaught_0 (enumFrom (k + 1) (hs.map fun d : Nat => MV.int d)) ρ2
        | .ct => mLoop (gTp 2 (gsCons (gSet 4) (gsCons (gSet 5) gsNil))) b_pcaught_0 (enumFrom (k + 1) (hs.map fun d : Nat => MV.int d)) ρ2
        | .br => .ok (.nx, ρ2)
        | .rt v => .ok (.rt v, ρ2) := rfl
    rw [step]
    by_cases h1 : due.length ≤ k
    · rw [if_pos h1]
      simp [b_pcaught_0, h1, szOk_small, encR]
    · rw [if_neg h1]
      have h1' : ¬ ((due.length : Int) ≤ k) := by omega
      have d1 := due_at (due := due) (k := k) (by omega)
      have d2 := phalf_right_eq (due.getD k "") h
      generalize due.getD k "" = w at d1 d2
      cases hr : rightM w h with
      | true =>
        have ih := caught_loop due a b c hs (k + 1) (some (.int k)) (some (.int h))
        rw [hr] at d2
        simp [b_pcaught_0, h1, d1, d2] at ih ⊢
        exact ih
      | false =>
        rw [hr] at d2
        simp [b_pcaught_0, h1, d1, d2, szOk_small, encR]
theorem pcaught_eq {kd sg : Str} {n : Nat} {p : MV} (hk : kd = "packed" ∨ kd = "spread") (h1 : 1 ≤ n ∧ n < 100) (row : List Nat) (hl : row.length ≤ 100000) :
    f_pcaught [Form kd n sg p, .tup (row.map fun d : Nat => MV.int d)] = .ok (encO (caughtM (dutiesM kd sg n) (halvesOf row)), []) := by
  obtain ⟨V, v1, v2⟩ := @pduties_eq kd sg n p hk h1
  have i1 := phalves_in_eq row (by omega)
  have lp := caught_loop (dutiesM kd sg n) (some (Form kd n sg p)) (some (.tup (row.map fun d : Nat => MV.int d))) (some (.lst ((halvesOf row).map fun d : Nat => MV.int d))) (halvesOf row) 0 none none
  have hlen := halvesOf_len row
  generalize halvesOf row = hs at *
  generalize dutiesM kd sg n = due at *
  generalize hfm : Form kd n sg p = fm at *
  obtain ⟨fx, rfl⟩ : ∃ fx, fm = .tup fx := ⟨_, hfm.symm⟩
  refine mFn_ok ?_
  unfold caughtM
  cases e : scanM due 0 hs with
  | some r =>
    rw [e] at lp
    obtain ⟨ρ', lp⟩ := lp
    simp [m_pcaught, v1, v2, i1, lp, encO]
  | none =>
    rw [e] at lp
    obtain ⟨e', f', lp⟩ := lp
    by_cases hlt : hs.length < due.length
    · simp [m_pcaught, v1, v2, i1, lp, encO, hlt, szOk_small, encR]
    · simp [m_pcaught, v1, v2, i1, lp, encO, hlt]
def figsM (due : List Str) (hs : List Nat) : List Nat := ((due.zip hs).filter fun q : Str × Nat => decide (q.1 = "figure")).map (·.2)
def numB (fs : List Nat) : Nat := fs.foldl (fun a d => a * 10 + d) 0
def signAt (due : List Str) : Nat := (due.findIdx? fun s : Str => decide (s = "sign")).getD 0
def valueM (sg : Str) (n : Nat) (due : List Str) (hs : List Nat) : Int :=
  if sg = "end" ∧ (hs.getD (signAt due) 0 = 11 ∨ hs.getD (signAt due) 0 = 13) then -(numB (figsM due hs) : Int)
  else if sg = "tens" ∧ 4 < (figsM due hs).getD 0 0 then (numB (figsM due hs) : Int) - 10 ^ n
  else numB (figsM due hs)
theorem figs_range : ∀ (due : List Str) (hs : List Nat), due.length = hs.length → figsM due hs = ((List.range hs.length).filter fun i => decide (due.getD i "" = "figure")).map fun i => hs.getD i 0
  | [], [], _ => rfl
  | d :: due, h :: hs, e => by
    have ih := figs_range due hs (by simpa using e)
    unfold figsM at ih ⊢
    rw [List.length_cons, List.range_succ_eq_map, List.zip_cons_cons]
    by_cases hd : d = "figure"
    · rw [List.filter_cons_of_pos (by simpa using hd), List.filter_cons_of_pos (by simpa using hd), List.map_cons, List.map_cons, ih, List.filter_map, List.map_map]
      rfl
    · rw [List.filter_cons_of_neg (by simpa using hd), List.filter_cons_of_neg (by simpa using hd), ih, List.filter_map, List.map_map]
      rfl
  | [], _ :: _, e => by simp at e
  | _ :: _, [], e => by simp at e
theorem pnumber_by_eq (fs : List Nat) : f_pnumber_by [.int 10, .lst (fs.map fun d : Nat => MV.int d)] = .ok (.int (numB fs), []) := by
  refine mFn_ok ?_
  obtain ⟨⟨z', h⟩, _⟩ := loop_junk (σ := Nat) (β := Option MV) (g := gSet 3) (b := b_pnumber_by_0) (fun s z => [some (.int 10), some (.lst (fs.map fun d : Nat => MV.int d)), some (.int s), z]) (fun d : Nat => MV.int d) (fun s d => s * 10 + d) (fun _ _ => True) fs 0 none trivial (by
    intro i s z x hx hi hlt
    refine ⟨trivial, _, by simp; rfl, some (.int x), ?_⟩
    have h1 := mulOk_r (i := (s : Int)) (j := 10) (by decide) (by decide)
    simp [b_pnumber_by_0, h1])
  simp at h
  simp [m_pnumber_by, h, numB]
theorem fIn_sgn (h : Int) : fIn (.int h) (.tup [.int 11, .int 13]) = some (.bl (decide (h = 11 ∨ h = 13))) := by
  by_cases e1 : h = 11
  · subst e1; rfl
  · by_cases e2 : h = 13
    · subst e2; rfl
    · have a1 : (11 == h) = false := by simp; omega
      have a2 : (13 == h) = false := by simp; omega
      simp [fIn, inA, inM, flatM, eqFlat, e1, e2, a1, a2]
theorem caught_none {due : List Str} {hs : List Nat} (h : caughtM due hs = none) : due.length = hs.length ∧ ∀ i, i < hs.length → rightM (due.getD i "") (hs.getD i 0) = true := by
  unfold caughtM at h
  have key : ∀ (hs : List Nat) (k : Nat), scanM due k hs = none → (k ≤ due.length → k + hs.length ≤ due.length) ∧ ∀ i, i < hs.length → rightM (due.getD (k + i) "") (hs.getD i 0) = true := by
    intro hs
    induction hs with
    | nil => intro k _; exact ⟨fun h => by simpa using h, fun i hi => by simp at hi⟩
    | cons x hs ih =>
      intro k e
      unfold scanM at e
      split at e
      · cases e
      · rename_i h1
        split at e
        · rename_i h2
          obtain ⟨i1, i2⟩ := ih (k + 1) e
          refine ⟨fun _ => ?_, fun i hi => ?_⟩
          · have := i1 (by omega)
            rw [List.length_cons]; omega
          · match i with
            | 0 => exact h2
            | i + 1 =>
              have := i2 i (by simpa using hi)
              rw [show k + (i + 1) = k + 1 + i by omega]
              exact this
        · cases e
  cases e : scanM due 0 hs with
  | some r => rw [e] at h; cases h
  | none =>
    rw [e] at h
    obtain ⟨k1, k2⟩ := key hs 0 e
    have k1 := k1 (Nat.zero_le _)
    simp only at h
    split at h
    · cases h
    · refine ⟨by omega, fun i hi => ?_⟩
      have := k2 i hi
      rw [Nat.zero_add] at this
      exact this
theorem sign_some {kd : Str} {n : Nat} (hk : kd = "packed" ∨ kd = "spread") (h1 : 1 ≤ n) : ∃ j, (dutiesM kd "end" n).findIdx? (fun s : Str => decide (s = "sign")) = some j := by
  have : ("sign" : Str) ∈ dutiesM kd "end" n := by
    rcases hk with rfl | rfl
    · unfold dutiesM
      rw [if_pos rfl, if_pos rfl]
      simp
    · unfold dutiesM
      rw [if_neg spread_ne]
      have key : ∀ (zs fs : List Str), zs.length = fs.length → ("sign" : Str) ∈ zs → ("sign" : Str) ∈ interG zs fs := by
        intro zs
        induction zs with
        | nil => intro fs _ h; cases h
        | cons z zs ih =>
          intro fs hl h
          match fs with
          | [] => simp at hl
          | f :: fs =>
            rw [interG_cons]
            rcases List.mem_cons.mp h with e | h
            · rw [← e]; simp
            · have := ih fs (by simpa using hl) h
              simp [this]
      refine key _ _ (by rw [zoneD_len, List.length_replicate]) ?_
      unfold zoneD
      rw [if_pos rfl]
      exact List.mem_iff_getElem.mpr ⟨n - 1, by simp; omega, by simp⟩
  cases e : (dutiesM kd "end" n).findIdx? (fun s : Str => decide (s = "sign")) with
  | some j => exact ⟨j, rfl⟩
  | none =>
    rw [List.findIdx?_eq_none_iff] at e
    have := e _ this
    simp at this
theorem sign_lt {due : List Str} {j : Nat} (h : due.findIdx? (fun s : Str => decide (s = "sign")) = some j) : j < due.length := (List.findIdx?_eq_some_iff_getElem.mp h).1
theorem comp_figs {due : List Str} {hs : List Nat} (hl : due.length = hs.length) (hz : hs.length ≤ 100000) (a b c d e : Option MV) :
    mLcO (mR1 (mCons (mBlt bLen (mCons (mVar 3) (mNil))) (mNil))) (.nm 7) (mTest (mOp fEq (mOp fIx (mVar 3) (mVar 7)) (mC (.str "figure")))) (mOp fIx (mVar 4) (mVar 7)) [7] [a, b, c, some (.lst (due.map MV.str)), some (.lst (hs.map fun d : Nat => MV.int d)), d, e, none] =
    .ok (.own ((figsM due hs).map fun d : Nat => MV.int d), [a, b, c, some (.lst (due.map MV.str)), some (.lst (hs.map fun d : Nat => MV.int d)), d, e, none]) := by
  have ir : inR (hs.length : Int) = true := inR_of (by omega) (by omega)
  have e1 : (figsM due hs).map (fun d : Nat => MV.int d) = ((rngM 0 1 hs.length).filter fun x => match x with | .int k => decide (due.getD k.toNat "" = "figure") | _ => false).map fun x => match x with | .int k => MV.int (hs.getD k.toNat 0 : Nat) | _ => .non := by
    rw [figs_range due hs hl]
    unfold rngM
    rw [List.filter_map, List.map_map, List.map_map]
    have z : ∀ i : Nat, (0 + (i : Int) * 1).toNat = i := fun i => by omega
    have f1 : (List.range hs.length).filter (fun i => decide (due.getD i "" = "figure")) = (List.range hs.length).filter ((fun x => match x with | MV.int k => decide (due.getD k.toNat "" = "figure") | _ => false) ∘ fun i : Nat => MV.int (0 + (i : Int) * 1)) := by
      refine List.filter_congr fun i _ => ?_
      show _ = decide (due.getD (0 + (i : Int) * 1).toNat "" = "figure")
      rw [z]
    rw [f1]
    refine List.map_congr_left fun i _ => ?_
    show _ = MV.int (hs.getD (0 + (i : Int) * 1).toNat 0 : Nat)
    rw [z]; rfl
  rw [e1]
  refine mLcO_filt _ _ (by simp [hl, ir]) (by simp [perAt]) ?_ (by rw [rngM_len, sizeLine_eq]; omega)
  intro x hx
  obtain ⟨i, hi, rfl⟩ : ∃ i, i < hs.length ∧ MV.int (0 + (i : Int) * 1) = x := by
    unfold rngM at hx
    rw [List.mem_map] at hx
    obtain ⟨i, hi, e⟩ := hx
    exact ⟨i, List.mem_range.mp hi, e⟩
  have z : (0 + (i : Int) * 1) = (i : Int) := by omega
  have a1 := due_at (due := due) (k := i) (by omega)
  have a2 : atI (hs.map fun d : Nat => MV.int d) (i : Int) = some (.int (hs.getD i 0 : Nat)) := by
    rw [atI_ge (by omega)]
    simp [hi]
  rw [z]
  have tt : ∀ w : Str, atI (due.map MV.str) (i : Int) = some (.str w) → mTest (mOp fEq (mOp fIx (mVar 3) (mVar 7)) (mC (.str "figure"))) [a, b, c, some (.lst (due.map MV.str)), some (.lst (hs.map fun d : Nat => MV.int d)), d, e, some (.int i)] = .ok (decide (w = "figure"), [a, b, c, some (.lst (due.map MV.str)), some (.lst (hs.map fun d : Nat => MV.int d)), d, e, some (.int i)]) := fun w a1 => by simp [a1]
  have te : ∀ y : Nat, atI (hs.map fun d : Nat => MV.int d) (i : Int) = some (.int (y : Nat)) → mOp fIx (mVar 4) (mVar 7) [a, b, c, some (.lst (due.map MV.str)), some (.lst (hs.map fun d : Nat => MV.int d)), d, e, some (.int i)] = .ok (.int y, [a, b, c, some (.lst (due.map MV.str)), some (.lst (hs.map fun d : Nat => MV.int d)), d, e, some (.int i)]) := fun y a2 => by simp [a2]
  exact ⟨[a, b, c, some (.lst (due.map MV.str)), some (.lst (hs.map fun d : Nat => MV.int d)), d, e, some (.int i)], by simp [setT, wipeM], tt _ a1, fun _ => te _ a2, by simp [wipeM], by simp⟩
theorem pnumber_of_eq {kd sg : Str} {n : Nat} {p : MV} (hk : kd = "packed" ∨ kd = "spread") (hs : sg = "none" ∨ sg = "end" ∨ sg = "tens") (h1 : 1 ≤ n ∧ n < 100) (row : List Nat) (hl : row.length ≤ 50000) (hc : caughtM (dutiesM kd sg n) (halvesOf row) = none) (hf : 1 ≤ (figsM (dutiesM kd sg n) (halvesOf row)).length) :
    f_pnumber_of [Form kd n sg p, .tup (row.map fun d : Nat => MV.int d)] = .ok (.int (valueM sg n (dutiesM kd sg n) (halvesOf row)), []) := by
  obtain ⟨V, v1, v2⟩ := @pduties_eq kd sg n p hk h1
  have i1 := phalves_in_eq row (by omega)
  have c1 := @pcaught_eq kd sg n p hk h1 row (by omega)
  rw [hc] at c1
  obtain ⟨hlen, _⟩ := caught_none hc
  have hlen2 := halvesOf_len row
  have hsn : sg = "end" → ∃ j, (dutiesM kd sg n).findIdx? (fun s : Str => decide (s = "sign")) = some j := fun e => by subst e; exact sign_some hk h1.1
  have cf := comp_figs hlen (by omega) (some (Form kd n sg p)) (some (.tup (row.map fun d : Nat => MV.int d))) (some .non) none none
  have nb := pnumber_by_eq (figsM (dutiesM kd sg n) (halvesOf row))
  have t1 := pten_eq (k := (n : Int)) (by omega) (by omega)
  unfold valueM
  unfold Form at *
  generalize halvesOf row = hv at *
  generalize hdu : dutiesM kd sg n = due at *
  generalize hfs : figsM due hv = fs at *
  have nbv : (numB fs : Int) = numB fs := rfl
  generalize numB fs = N at *
  refine mFn_ok ?_
  simp only [encO, Int.toNat_natCast] at c1 t1
  have f0 : ∃ q : Nat, fs[0]? = some q ∧ fs.getD 0 0 = q := by
    match fs, hf with
    | q :: r, _ => exact ⟨q, rfl, rfl⟩
  obtain ⟨q, q1, q2⟩ := f0
  rcases hs with rfl | rfl | rfl
  · simp [m_pnumber_of, v1, v2, i1, c1, cf, nb, sg_ne6, sg_ne4]
  · obtain ⟨j, hj⟩ := hsn rfl
    have hjl := sign_lt hj
    have x1 := lxIndex_map hj
    have x2 : atI (hv.map fun d : Nat => MV.int d) (j : Int) = some (.int (hv.getD j 0 : Nat)) := by
      rw [atI_ge (by omega)]
      simp [show j < hv.length by omega]
    have x3 := fIn_sgn (hv.getD j 0 : Nat)
    have x4 : signAt due = j := by unfold signAt; rw [hj]; rfl
    rw [x4]
    generalize hv.getD j 0 = y at *
    by_cases hy : y = 11 ∨ y = 13
    · have hy' : ((y : Int) = 11 ∨ (y : Int) = 13) := by omega
      simp only [hy', decide_true] at x3
      simp [m_pnumber_of, v1, v2, i1, c1, cf, nb, x1, x2, x3, hy]
    · have hy' : ¬ ((y : Int) = 11 ∨ (y : Int) = 13) := by omega
      simp only [hy', decide_false] at x3
      simp [m_pnumber_of, v1, v2, i1, c1, cf, nb, x1, x2, x3, hy, sg_ne5]
  · by_cases hq : 4 < q
    · have hq' : (4 : Int) < q := by omega
      simp [m_pnumber_of, v1, v2, i1, c1, cf, nb, sg_ne3, q1, hq, hq', t1]
    · have hq' : ¬ (4 : Int) < q := by omega
      simp [m_pnumber_of, v1, v2, i1, c1, cf, nb, sg_ne3, q1, hq, hq', t1]
theorem pnumber_of_no {kd sg : Str} {n : Nat} {p : MV} (hk : kd = "packed" ∨ kd = "spread") (h1 : 1 ≤ n ∧ n < 100) (row : List Nat) (hl : row.length ≤ 50000) {r : Nat × Str} (hc : caughtM (dutiesM kd sg n) (halvesOf row) = some r) :
    f_pnumber_of [Form kd n sg p, .tup (row.map fun d : Nat => MV.int d)] = .exc ⟨"Wrong", [("why", .str r.2), ("place", .int r.1)]⟩ [] := by
  have c1 := @pcaught_eq kd sg n p hk h1 row (by omega)
  rw [hc] at c1
  refine mFn_exc ?_
  unfold Form at *
  simp only [encO, encR] at c1
  simp [m_pnumber_of, c1]
def packH (n : Nat) (sg : Str) (x : Int) (h : Nat) : List Nat := List.replicate (manyM n sg % 2) 0 ++ digsB n (sizeM n sg x) ++ if sg = "end" then [h] else []
def zonesH (n : Nat) (sg : Str) (h : Nat) : List Nat := if sg = "end" then (List.replicate n 15).set (n - 1) h else List.replicate n 15
def halvesH (kd sg : Str) (n : Nat) (x : Int) (h : Nat) : List Nat := if kd = "packed" then packH n sg x h else inter (zonesH n sg h) (digsB n (sizeM n sg x))
def rowH (kd sg : Str) (n : Nat) (x : Int) (h : Nat) : List Nat := pairUp (halvesH kd sg n x h)
theorem packH_len (n : Nat) (sg : Str) (x : Int) (h : Nat) : (packH n sg x h).length = 2 * ((manyM n sg + 1) / 2) := by
  rw [← many_even]
  unfold packH
  by_cases h : sg = "end"
  · simp [h, manyM, digsB_len]
  · simp [h, manyM, digsB_len]
theorem zonesH_len (n : Nat) (sg : Str) (h : Nat) : (zonesH n sg h).length = n := by
  unfold zonesH; split <;> simp
theorem halvesH_len (kd sg : Str) (n : Nat) (x : Int) (h : Nat) : (halvesH kd sg n x h).length = 2 * roomM kd sg n := by
  unfold halvesH roomM
  split
  · exact packH_len n sg x h
  · rw [inter_len _ _ (by rw [zonesH_len, digsB_len]), digsB_len]
theorem rowH_len (kd sg : Str) (n : Nat) (x : Int) (h : Nat) : (rowH kd sg n x h).length = roomM kd sg n := pairUp_len _ _ (halvesH_len kd sg n x h)
theorem halvesH_lt (kd sg : Str) (n : Nat) (x : Int) (h : Nat) (hh : h < 16) : ∀ d ∈ halvesH kd sg n x h, d < 16 := by
  have hd : ∀ m : Nat, ∀ d ∈ digsB n m, d < 16 := fun m d h => by have := digsB_lt h; omega
  unfold halvesH
  split
  · intro d hm
    unfold packH at hm
    rcases List.mem_append.mp hm with hm | hm
    · rcases List.mem_append.mp hm with hm | hm
      · have := List.eq_of_mem_replicate hm; omega
      · exact hd _ d hm
    · split at hm
      · have : d = h := by simpa using hm
        omega
      · simp at hm
  · refine inter_lt _ _ ?_ (hd _)
    intro d hm
    unfold zonesH at hm
    split at hm
    · rcases List.mem_or_eq_of_mem_set hm with hm | hm
      · have := List.eq_of_mem_replicate hm; omega
      · omega
    · have := List.eq_of_mem_replicate hm; omega
theorem rowH_lt (kd sg : Str) (n : Nat) (x : Int) (h : Nat) (hh : h < 16) : ∀ b ∈ rowH kd sg n x h, b < 256 := pairUp_lt _ (halvesH_lt kd sg n x h hh)
theorem lrowH_eq {kd sg : Str} {n : Nat} {p : MV} (hk : kd = "packed" ∨ kd = "spread") (h1 : 1 ≤ n ∧ n < 100) (x : Int) (h : Nat) : f_lrow_with [Form kd n sg p, .int x, .int h] = .ok (.tup ((rowH kd sg n x h).map fun d : Nat => MV.int d), []) := by
  refine mFn_ok ?_
  have f1 := @lfigures_eq kd sg n p h1 x
  unfold Form at f1
  rcases hk with rfl | rfl
  · have b := lby_halves_eq (packH n sg x h) ((manyM n sg + 1) / 2) (by have := @room_small "packed" sg n h1.2; simpa [roomM] using this) (packH_len n sg x h)
    have hm : manyM n sg % 2 < 2 := Nat.mod_lt _ (by decide)
    have r0 := @fMul_1 (.int 0) (manyM n sg % 2) (by omega)
    by_cases he : sg = "end"
    · subst he
      have e2 : ((n : Int) + 1).fmod 2 = ((manyM n "end" % 2 : Nat) : Int) := by
        have : manyM n "end" = n + 1 := by simp [manyM]
        rw [this, show (n : Int) + 1 = ((n + 1 : Nat) : Int) by omega]
        exact nat_fmod (n + 1) 2
      have s1 : szOk (manyM n "end" % 2 + (n + 1)) = true := szOk_small (by omega)
      have s2 : szOk (n + 1) = true := szOk_small (by omega)
      unfold packH at b
      simp at b r0 e2
      simp [m_lrow_with, Form, f1, szOk_small, digsB_len, e2, r0, s1, s2, b, rowH, halvesH, packH]
    · have e2 : (n : Int).fmod 2 = ((manyM n sg % 2 : Nat) : Int) := by
        have : manyM n sg = n := by simp [manyM, he]
        rw [this]
        exact nat_fmod n 2
      have s1 : szOk (manyM n sg % 2 + n) = true := szOk_small (by omega)
      unfold packH at b
      simp [he] at b r0 e2
      simp [m_lrow_with, Form, f1, he, szOk_small, digsB_len, e2, r0, s1, b, rowH, halvesH, packH]
  · have r0 := @fMultL_1 (.int 15) n (by omega)
    have c := zip_comp (zs := zonesH n sg h) (fs := digsB n (sizeM n sg x)) (by rw [zonesH_len]; omega) (some (Form "spread" n sg p)) (some (.int x)) (some (.int h))
    have hr : rowH "spread" sg n x h = List.zipWith (fun z f => 16 * z + f) (zonesH n sg h) (digsB n (sizeM n sg x)) := by
      unfold rowH halvesH
      rw [if_neg spread_ne, inter_pair _ _ (by rw [zonesH_len, digsB_len])]
    rw [hr]
    unfold Form at c
    by_cases he : sg = "end"
    · subst he
      have z3 : ∀ ρ : Env, ρ[4]? = some (some (.own (List.replicate n (MV.int 15)))) → setIxM 4 (.int (h : Nat)) (.int (-1)) ρ = .ok (.nx, ρ.set 4 (some (.own ((zonesH n "end" h).map fun d : Nat => MV.int d)))) := fun ρ hρ => by
        have : (zonesH n "end" h).map (fun d : Nat => MV.int d) = (List.replicate n (MV.int 15)).set (n - 1) (.int h) := by
          unfold zonesH
          rw [if_pos rfl, map_set, List.map_replicate]
          simp
        rw [this]
        exact setIxM_o hρ (by rw [List.length_replicate]; exact ixN_neg1 h1.1)
      simp [m_lrow_with, Form, f1, spread_ne, szOk_small, r0, z3, c]
    · have z4 : (zonesH n sg h).map (fun d : Nat => MV.int d) = List.replicate n (MV.int 15) := by
        unfold zonesH
        rw [if_neg he, List.map_replicate]
        simp
      rw [z4] at c
      simp [m_lrow_with, Form, f1, spread_ne, he, szOk_small, r0, c]
theorem figs_app {ds es : List Str} {xs ys : List Nat} (h : ds.length = xs.length) : figsM (ds ++ es) (xs ++ ys) = figsM ds xs ++ figsM es ys := by
  unfold figsM
  rw [List.zip_append h, List.filter_append, List.map_append]
theorem figs_rep_no {d : Str} (hd : d ≠ "figure") : ∀ (k : Nat) (xs : List Nat), figsM (List.replicate k d) xs = []
  | 0, xs => by simp [figsM]
  | k + 1, [] => by simp [figsM]
  | k + 1, x :: xs => by
    have := figs_rep_no hd k xs
    unfold figsM at this ⊢
    rw [List.replicate_succ, List.zip_cons_cons, List.filter_cons_of_neg (by simpa using hd), this]
theorem figs_rep : ∀ (xs : List Nat), figsM (List.replicate xs.length "figure") xs = xs
  | [] => rfl
  | x :: xs => by
    have := figs_rep xs
    unfold figsM at this ⊢
    rw [List.length_cons, List.replicate_succ, List.zip_cons_cons, List.filter_cons_of_pos (by simp), List.map_cons, this]
theorem figs_inter : ∀ (zs : List Str) (hs fs : List Nat), (∀ z ∈ zs, z ≠ "figure") → zs.length = fs.length → hs.length = fs.length → figsM (interG zs (List.replicate fs.length "figure")) (inter hs fs) = fs
  | [], [], [], _, _, _ => rfl
  | z :: zs, h :: hs, f :: fs, hz, h1, h2 => by
    have ih := figs_inter zs hs fs (fun w hw => hz w (List.mem_cons_of_mem _ hw)) (by simpa using h1) (by simpa using h2)
    rw [List.length_cons, List.replicate_succ, interG_cons]
    show figsM (z :: "figure" :: interG zs (List.replicate fs.length "figure")) (h :: f :: inter hs fs) = f :: fs
    unfold figsM at ih ⊢
    rw [List.zip_cons_cons, List.zip_cons_cons, List.filter_cons_of_neg (by simpa using hz z (by simp)), List.filter_cons_of_pos (by simp), List.map_cons, ih]
  | [], _ :: _, [], _, _, h2 => by simp at h2
  | [], _, _ :: _, _, h1, _ => by simp at h1
  | _ :: _, [], _ :: _, _, _, h2 => by simp at h2
  | _ :: _, _, [], _, h1, _ => by simp at h1
theorem zoneD_mem {n : Nat} {sg z : Str} (h : z ∈ zoneD n sg) : z = "zone" ∨ z = "sign" := by
  unfold zoneD at h
  split at h
  · rcases List.mem_or_eq_of_mem_set h with h | h
    · exact .inl (List.eq_of_mem_replicate h)
    · exact .inr h
  · exact .inl (List.eq_of_mem_replicate h)
theorem zs_ne : ("zone" : Str) ≠ "figure" ∧ ("sign" : Str) ≠ "figure" ∧ ("ahead" : Str) ≠ "figure" := by decide
theorem figs_dressed {kd sg : Str} {n : Nat} (x : Int) (h : Nat) (hk : kd = "packed" ∨ kd = "spread") : figsM (dutiesM kd sg n) (halvesH kd sg n x h) = digsB n (sizeM n sg x) := by
  rcases hk with rfl | rfl
  · unfold dutiesM halvesH packH
    rw [if_pos rfl, if_pos rfl, figs_app (by simp [digsB_len]), figs_app (by simp), figs_rep_no zs_ne.2.2]
    have f1 := figs_rep (digsB n (sizeM n sg x))
    rw [digsB_len] at f1
    rw [f1]
    split
    · have : figsM [("sign" : Str)] [h] = [] := figs_rep_no zs_ne.2.1 1 [h]
      rw [this]; simp
    · have : figsM [] [] = [] := rfl
      rw [this]; simp
  · unfold dutiesM halvesH
    rw [if_neg spread_ne, if_neg spread_ne]
    have := figs_inter (zoneD n sg) (zonesH n sg h) (digsB n (sizeM n sg x)) (fun z hz => by
      rcases zoneD_mem hz with rfl | rfl
      · exact zs_ne.1
      · exact zs_ne.2.1) (by rw [zoneD_len, digsB_len]) (by rw [zonesH_len, digsB_len])
    rw [digsB_len] at this
    exact this
theorem sign_uniq {due : List Str} {j : Nat} (hj : due[j]? = some ("sign" : Str)) (h : ∀ i, i < j → due[i]? ≠ some ("sign" : Str)) : signAt due = j := by
  unfold signAt
  have : due.findIdx? (fun s : Str => decide (s = "sign")) = some j := by
    rw [List.findIdx?_eq_some_iff_getElem]
    obtain ⟨h1, h2⟩ := List.getElem?_eq_some_iff.mp hj
    refine ⟨h1, by simpa using h2, fun i hi => ?_⟩
    have := h i hi
    rw [List.getElem?_eq_getElem (by omega)] at this
    simpa using this
  rw [this]; rfl
theorem interG_get {α : Type} : ∀ (zs fs : List α) (i : Nat), zs.length = fs.length → (interG zs fs)[2 * i]? = zs[i]? ∧ (interG zs fs)[2 * i + 1]? = fs[i]?
  | [], [], i, _ => by simp [interG]
  | z :: zs, f :: fs, 0, _ => by rw [interG_cons]; simp
  | z :: zs, f :: fs, i + 1, h => by
    obtain ⟨a, b⟩ := interG_get zs fs i (by simpa using h)
    rw [interG_cons, show 2 * (i + 1) = 2 * i + 1 + 1 by omega]
    simp [a, b]
  | [], _ :: _, _, h => by simp at h
  | _ :: _, [], _, h => by simp at h
def FitH (x : Int) (h : Nat) : Prop := 9 < h ∧ h < 16 ∧ (x < 0 → h = 11 ∨ h = 13) ∧ (0 < x → h ≠ 11 ∧ h ≠ 13)
theorem ldressed_ok {kd sg : Str} {n : Nat} {p : MV} (hk : kd = "packed" ∨ kd = "spread") (h1 : 1 ≤ n ∧ n < 100) (x d : Int) : ∃ h, FitH x h ∧ f_ldressed [Form kd n sg p, .int x, .int d] = .ok (.tup ((rowH kd sg n x h).map fun d : Nat => MV.int d), []) := by
  have lr := fun h => @lrowH_eq kd sg n p hk h1 x h
  unfold Form at lr
  by_cases h0 : 0 < x
  · obtain ⟨h, hf, ha⟩ : ∃ h : Nat, FitH x h ∧ atI [MV.int 12, .int 10, .int 14, .int 15] (d.fmod 4) = some (.int h) := by
      have a := fmod_ge' (a := d) (b := 4) (by decide)
      have b := fmod_lt' (a := d) (b := 4) (by decide)
      unfold FitH
      rcases (show d.fmod 4 = 0 ∨ d.fmod 4 = 1 ∨ d.fmod 4 = 2 ∨ d.fmod 4 = 3 by omega) with e | e | e | e <;> rw [e]
      · exact ⟨12, by omega, rfl⟩
      · exact ⟨10, by omega, rfl⟩
      · exact ⟨14, by omega, rfl⟩
      · exact ⟨15, by omega, rfl⟩
    have h2 : ¬ x < 0 := by omega
    refine ⟨h, hf, mFn_ok ?_⟩
    simp [m_ldressed, Form, szOk_small, h0, h2, ha, lr]
  · by_cases h2 : x < 0
    · obtain ⟨h, hf, ha⟩ : ∃ h : Nat, FitH x h ∧ atI [MV.int 13, .int 11] (d.fmod 2) = some (.int h) := by
        have a := fmod_ge' (a := d) (b := 2) (by decide)
        have b := fmod_lt' (a := d) (b := 2) (by decide)
        unfold FitH
        rcases (show d.fmod 2 = 0 ∨ d.fmod 2 = 1 by omega) with e | e <;> rw [e]
        · exact ⟨13, by omega, rfl⟩
        · exact ⟨11, by omega, rfl⟩
      refine ⟨h, hf, mFn_ok ?_⟩
      simp [m_ldressed, Form, szOk_small, h0, h2, ha, lr]
    · obtain ⟨h, hf, ha⟩ : ∃ h : Nat, FitH x h ∧ atI [MV.int 12, .int 13, .int 10, .int 11, .int 14, .int 15] (d.fmod 6) = some (.int h) := by
        have a := fmod_ge' (a := d) (b := 6) (by decide)
        have b := fmod_lt' (a := d) (b := 6) (by decide)
        unfold FitH
        rcases (show d.fmod 6 = 0 ∨ d.fmod 6 = 1 ∨ d.fmod 6 = 2 ∨ d.fmod 6 = 3 ∨ d.fmod 6 = 4 ∨ d.fmod 6 = 5 by omega) with e | e | e | e | e | e <;> rw [e]
        · exact ⟨12, by omega, rfl⟩
        · exact ⟨13, by omega, rfl⟩
        · exact ⟨10, by omega, rfl⟩
        · exact ⟨11, by omega, rfl⟩
        · exact ⟨14, by omega, rfl⟩
        · exact ⟨15, by omega, rfl⟩
      refine ⟨h, hf, mFn_ok ?_⟩
      simp [m_ldressed, Form, szOk_small, h0, h2, ha, lr]
theorem room_pos (kd sg : Str) {n : Nat} (h : 1 ≤ n) : 1 ≤ roomM kd sg n := by
  have : n ≤ manyM n sg := by unfold manyM; omega
  unfold roomM
  split <;> omega
theorem ixN_at {k : Nat} {i : Int} (h : 0 ≤ i ∧ i < k) : ixN k i = some i.toNat := by
  unfold ixN
  rw [if_pos (by omega), if_pos (by omega)]
def fB (fr : Nat) (ws : List Str) (rs : List MV) (tab : Str → MV) : List (Str × MV) := [("rows", .own rs), ("tables", .own (ws.map tab)), ("worths", .own (ws.map MV.fnc)), ("free", .int fr)]
def Bo (fr : Nat) (ws : List Str) (rs : List MV) (tab : Str → MV) : MV := .obj "Builder" (fB fr ws rs tab)
section
variable {fr : Nat} {ws : List Str} {rs : List MV} {tab : Str → MV} {ρ : Env} {r x y z : Option MV}
@[simp] theorem Bo_held : (Bo fr ws rs tab).held = true := nr rfl
@[simp] theorem Bo_fold : MV.obj (Str.ofString "Builder") (fB fr ws rs tab) = Bo fr ws rs tab := nr rfl
@[simp] theorem lk_rows : (fB fr ws rs tab).lookup (Str.ofString "rows") = some (.own rs) := nr rfl
@[simp] theorem lk_tables : (fB fr ws rs tab).lookup (Str.ofString "tables") = some (.own (ws.map tab)) := nr rfl
@[simp] theorem lk_worths : (fB fr ws rs tab).lookup (Str.ofString "worths") = some (.own (ws.map MV.fnc)) := nr rfl
@[simp] theorem lk_free : (fB fr ws rs tab).lookup (Str.ofString "free") = some (.int fr) := nr rfl
@[simp] theorem lk_cell : (fB fr ws rs tab).lookup (Str.ofString "cell") = none := nr rfl
@[simp] theorem lk_put : (fB fr ws rs tab).lookup (Str.ofString "put") = none := nr rfl
@[simp] theorem lk_row : (fB fr ws rs tab).lookup (Str.ofString "row") = none := nr rfl
@[simp] theorem lk_look : (fB fr ws rs tab).lookup (Str.ofString "look") = none := nr rfl
@[simp] theorem lk_copied : (fB fr ws rs tab).lookup (Str.ofString "copied") = none := nr rfl
@[simp] theorem lk_looked : (fB fr ws rs tab).lookup (Str.ofString "looked") = none := nr rfl
@[simp] theorem lk_ended : (fB fr ws rs tab).lookup (Str.ofString "ended") = none := nr rfl
@[simp] theorem lk_program : (fB fr ws rs tab).lookup (Str.ofString "program") = none := nr rfl
@[simp] theorem lk_back_to : (fB fr ws rs tab).lookup (Str.ofString "back_to") = none := nr rfl
@[simp] theorem put_rows {zs : List MV} : putM (Str.ofString "rows") (.own zs) (fB fr ws rs tab) = fB fr ws zs tab := nr rfl
@[simp] theorem put_free {k : Nat} : putM (Str.ofString "free") (.int k) (fB fr ws rs tab) = fB k ws rs tab := nr rfl
@[simp] theorem put_free1 : putM (Str.ofString "free") (.int ((fr : Int) + 1)) (fB fr ws rs tab) = fB (fr + 1) ws rs tab := nr rfl
@[simp] theorem fB_len : (fB fr ws rs tab).length = 4 := nr rfl
def lkW (ws : List Str) (w : Str) : List Str := if w ∈ ws then ws else ws ++ [w]
def lkI (ws : List Str) (w : Str) : Nat := (lkW ws w).findIdx fun z => decide (z = w)
end
def w01 (p : Bool) : Nat := if p then 1 else 0
def wtab : List (Str × (Nat → Nat)) := [
  ("sign_below", fun b => w01 (decide (b % 16 = 11 ∨ b % 16 = 13))),
  ("five_on", fun b => w01 (decide (4 < b))),
  ("ten_or_none", fun b => 10 * w01 (decide (0 < b))),
  ("nine_less", fun b => if 9 < b ∧ b < 20 then 19 - b else b),
  ("ahead_of_last", fun b => b / 10),
  ("last_figure", fun b => b % 10),
  ("high_half", fun b => b / 16),
  ("low_half", fun b => b % 16),
  ("one_or_none", fun b => w01 (decide (0 < b))),
  ("half_up", fun b => b % 16 * 16),
  ("one_of_two", fun b => w01 (decide (b % 4 = 1 ∨ b % 4 = 2))),
  ("not_all", fun b => w01 (decide (b < 255))),
  ("none_or_all", fun b => 255 * w01 (decide (b = 0))),
  ("lacking", fun b => (9 + 10 * 26 - b) % 10),
  ("fill", fun b => 255 * (1 - b / 128)),
  ("top_two", fun b => b / 128),
  ("other_twos", fun b => 255 - b),
  ("ten_low", fun b => 10 * b % 256),
  ("ten_high", fun b => 10 * b / 256),
  ("six_on", fun b => w01 (decide (5 < b))),
  ("product_byte", fun b => b / 16 * (b % 16)),
  ("order_byte", fun b => if b % 4 = 0 then 1 else if b % 4 = 1 then 2 else if b % 4 = 2 then 1 else 0),
  ("one_of_none", fun b => w01 (decide (b = 0))),
  ("lowest_two", fun b => b % 2),
  ("all_or_none", fun b => 255 * w01 (decide (0 < b)))]
def worthV (w : Str) (b : Nat) : Nat := match wtab.lookup w with | some g => g b | none => 0
def tabW (w : Str) : MV := .tup ((List.range 256).map fun b => .int (worthV w b))
inductive Rw where
  | put (a v : Nat) | copy (a b : Nat) | look (a k : Nat) | add (a b : Nat) | addc (a b : Nat) | and_ (a b : Nat) | or_ (a b : Nat) | left (a : Nat) | right (a : Nat) | mark (v : Nat)
def enR : Rw → MV
  | .put a v => .tup [.str "put", .int a, .int v]
  | .copy a b => .tup [.str "copy", .int a, .int b]
  | .look a k => .tup [.str "look", .int a, .int k]
  | .add a b => .tup [.str "add", .int a, .int b]
  | .addc a b => .tup [.str "addc", .int a, .int b]
  | .and_ a b => .tup [.str "and", .int a, .int b]
  | .or_ a b => .tup [.str "or", .int a, .int b]
  | .left a => .tup [.str "left", .int a]
  | .right a => .tup [.str "right", .int a]
  | .mark v => .tup [.str "mark", .int v]
def cg (c : List Nat) (i : Nat) : Nat := c.getD i 0
def stepL (tb : Nat → Nat → Nat) : Rw → List Nat × Nat → List Nat × Nat
  | .put a v, s => (s.1.set a v, s.2)
  | .copy a b, s => (s.1.set a (cg s.1 b), s.2)
  | .look a k, s => (s.1.set a (tb k (cg s.1 a)), s.2)
  | .add a b, s => (s.1.set a ((cg s.1 a + cg s.1 b) % 256), (cg s.1 a + cg s.1 b) / 256)
  | .addc a b, s => (s.1.set a ((cg s.1 a + cg s.1 b + s.2) % 256), (cg s.1 a + cg s.1 b + s.2) / 256)
  | .and_ a b, s => (s.1.set a (cg s.1 a &&& cg s.1 b), s.2)
  | .or_ a b, s => (s.1.set a (cg s.1 a ||| cg s.1 b), s.2)
  | .left a, s => (s.1.set a ((2 * cg s.1 a + s.2) % 256), (2 * cg s.1 a + s.2) / 256)
  | .right a, s => (s.1.set a ((cg s.1 a + 256 * s.2) / 2), (cg s.1 a + 256 * s.2) % 2)
  | .mark v, s => (s.1, v)
def runL (tb : Nat → Nat → Nat) (rs : List Rw) (s : List Nat × Nat) : List Nat × Nat := rs.foldl (fun s r => stepL tb r s) s
def okR (nt : Nat) : Rw → Bool
  | .put a v => decide (a < 256) && decide (v < 256)
  | .look a k => decide (a < 256) && decide (k < nt)
  | .copy a b => decide (a < 256) && decide (b < 256)
  | .add a b => decide (a < 256) && decide (b < 256)
  | .addc a b => decide (a < 256) && decide (b < 256)
  | .and_ a b => decide (a < 256) && decide (b < 256)
  | .or_ a b => decide (a < 256) && decide (b < 256)
  | .left a => decide (a < 256)
  | .right a => decide (a < 256)
  | .mark v => decide (v < 2)
def encC (c : List Nat) : List MV := c.map fun d : Nat => MV.int d
theorem encC_at {c : List Nat} {i : Nat} (h : i < c.length) : atI (encC c) (i : Int) = some (.int (cg c i : Nat)) := by
  rw [atI_ge (by omega)]
  simp [encC, cg, h]
theorem encC_set {ρ : Env} {c : List Nat} {i v : Nat} (h : ρ[1]? = some (some (.own (encC c)))) (hi : i < c.length) : setIxM 1 (.int v) (.int i) ρ = .ok (.nx, ρ.set 1 (some (.own (encC (c.set i v))))) := by
  rw [setIxM_o h (j := i) (by unfold encC; rw [List.length_map]; exact (ixN_at (k := c.length) (i := (i : Int)) ⟨by omega, by omega⟩).trans (by simp))]
  unfold encC
  rw [List.map_set]
def TabsAre (tb : Nat → Nat → Nat) (nt : Nat) (tabs : List MV) : Prop := ∀ k, k < nt → atI tabs (k : Int) = some (.tup ((List.range 256).map fun b => .int (tb k b)))
theorem tab_at {g : Nat → Nat} {v : Nat} (h : v < 256) : atI ((List.range 256).map fun b => MV.int (g b)) (v : Int) = some (.int (g v)) := by
  rw [atI_ge (by omega)]
  simp [h]
theorem bitAnd_n (a b : Nat) : Builtin.bitAnd (a : Int) (b : Int) = ((a &&& b : Nat) : Int) := by
  unfold Builtin.bitAnd
  rw [decide_eq_true (by omega), decide_eq_true (by omega)]
  simp
theorem bitOr_n (a b : Nat) : Builtin.bitOr (a : Int) (b : Int) = ((a ||| b : Nat) : Int) := by
  rw [Bits.bitOr_pp (by omega) (by omega)]
  simp
theorem ixV_own {ρ : Env} {c : List Nat} {i : Nat} (h : ρ[1]? = some (some (.own (encC c)))) (hi : i < c.length) : ixV ρ 1 (.int i) = some (.int (cg c i : Nat)) := by
  unfold ixV
  rw [h]
  exact encC_at hi
theorem lrun_step {tb : Nat → Nat → Nat} {nt : Nat} {tabs : List MV} (ht : TabsAre tb nt tabs) {c : List Nat} {m : Nat} (hl : c.length = 256) (hc : ∀ i, cg c i < 256) (r : Rw) (hr : okR nt r = true) (x0 x5 x6 x7 x8 : Option MV) :
    ∃ y6 y7 y8, b_lrun_0 [x0, some (.own (encC c)), some (.int m), some (enR r), some (.tup tabs), x5, x6, x7, x8] = .ok (.nx, [x0, some (.own (encC (stepL tb r (c, m)).1)), some (.int (stepL tb r (c, m)).2), some (enR r), some (.tup tabs), x5, y6, y7, y8]) := by
  have rd : ∀ (i : Nat) (x2 x3 x4 x6 x7 x8 : Option MV), i < 256 → ixV [x0, some (.own (encC c)), x2, x3, x4, x5, x6, x7, x8] 1 (.int i) = some (.int (cg c i : Nat)) := fun i _ _ _ _ _ _ h => ixV_own rfl (by omega)
  have wr : ∀ (i v : Nat) (x2 x3 x4 x6 x7 x8 : Option MV), i < 256 → setIxM 1 (.int v) (.int i) [x0, some (.own (encC c)), x2, x3, x4, x5, x6, x7, x8] = .ok (.nx, [x0, some (.own (encC (c.set i v))), x2, x3, x4, x5, x6, x7, x8]) := fun i v _ _ _ _ _ _ h => encC_set rfl (by omega)
  have dm : ∀ t : Nat, (t : Int).fmod 256 = ((t % 256 : Nat) : Int) := fun t => nat_fmod t 256
  have dd : ∀ t : Nat, (t : Int).fdiv 256 = ((t / 256 : Nat) : Int) := fun t => nat_fdiv t 256
  have em : ∀ t : Nat, (t : Int).fmod 2 = ((t % 2 : Nat) : Int) := fun t => nat_fmod t 2
  have ed : ∀ t : Nat, (t : Int).fdiv 2 = ((t / 2 : Nat) : Int) := fun t => nat_fdiv t 2
  cases r with
  | put a v =>
    simp only [okR, Bool.and_eq_true, decide_eq_true_eq] at hr
    refine ⟨some (.str "put"), some (.int a), x8, ?_⟩
    simp [b_lrun_0, enR, stepL, wr _ _ _ _ _ _ _ _ hr.1]
  | copy a b =>
    simp only [okR, Bool.and_eq_true, decide_eq_true_eq] at hr
    refine ⟨some (.str "copy"), some (.int a), x8, ?_⟩
    simp [b_lrun_0, enR, stepL, wr _ _ _ _ _ _ _ _ hr.1, rd _ _ _ _ _ _ _ hr.2]
  | look a k =>
    simp only [okR, Bool.and_eq_true, decide_eq_true_eq] at hr
    refine ⟨some (.str "look"), some (.int a), x8, ?_⟩
    have h1 := ht k hr.2
    have h2 := tab_at (g := tb k) (hc a)
    generalize (List.range 256).map (fun b => MV.int (tb k b)) = tl at *
    simp [b_lrun_0, enR, stepL, wr _ _ _ _ _ _ _ _ hr.1, rd _ _ _ _ _ _ _ hr.1, h1, h2]
  | add a b =>
    simp only [okR, Bool.and_eq_true, decide_eq_true_eq] at hr
    have e : ((cg c a : Int) + cg c b + 0) = ((cg c a + cg c b : Nat) : Int) := by omega
    refine ⟨some (.str "add"), some (.int a), some (.int (cg c a + cg c b : Nat)), ?_⟩
    have d1 := dm (cg c a + cg c b)
    have d2 := dd (cg c a + cg c b)
    have w1 := fun x2 x3 x4 x6 x7 x8 => wr a ((cg c a + cg c b) % 256) x2 x3 x4 x6 x7 x8 hr.1
    have mz : mulOk (m : Int) 0 = true := mulOk_r (by decide) (by decide)
    simp only [stepL]
    generalize (cg c a + cg c b) % 256 = lo at *
    generalize (cg c a + cg c b) / 256 = hi at *
    simp at d1 d2
    simp [b_lrun_0, enR, stepL, w1, rd _ _ _ _ _ _ _ hr.1, rd _ _ _ _ _ _ _ hr.2, mz, divOk, d1, d2]
  | addc a b =>
    simp only [okR, Bool.and_eq_true, decide_eq_true_eq] at hr
    refine ⟨some (.str "addc"), some (.int a), some (.int (cg c a + cg c b + m : Nat)), ?_⟩
    have d1 := dm (cg c a + cg c b + m)
    have d2 := dd (cg c a + cg c b + m)
    have w1 := fun x2 x3 x4 x6 x7 x8 => wr a ((cg c a + cg c b + m) % 256) x2 x3 x4 x6 x7 x8 hr.1
    have mz : mulOk (m : Int) 1 = true := mulOk_r (by decide) (by decide)
    simp only [stepL]
    generalize (cg c a + cg c b + m) % 256 = lo at *
    generalize (cg c a + cg c b + m) / 256 = hi at *
    simp at d1 d2
    simp [b_lrun_0, enR, stepL, w1, rd _ _ _ _ _ _ _ hr.1, rd _ _ _ _ _ _ _ hr.2, mz, divOk, d1, d2]
  | and_ a b =>
    simp only [okR, Bool.and_eq_true, decide_eq_true_eq] at hr
    refine ⟨some (.str "and"), some (.int a), x8, ?_⟩
    have e := bitAnd_n (cg c a) (cg c b)
    have w1 := fun x2 x3 x4 x6 x7 x8 => wr a (cg c a &&& cg c b) x2 x3 x4 x6 x7 x8 hr.1
    simp [b_lrun_0, enR, stepL, w1, rd _ _ _ _ _ _ _ hr.1, rd _ _ _ _ _ _ _ hr.2, fAnd, e]
  | or_ a b =>
    simp only [okR, Bool.and_eq_true, decide_eq_true_eq] at hr
    refine ⟨some (.str "or"), some (.int a), x8, ?_⟩
    have e := bitOr_n (cg c a) (cg c b)
    have w1 := fun x2 x3 x4 x6 x7 x8 => wr a (cg c a ||| cg c b) x2 x3 x4 x6 x7 x8 hr.1
    simp [b_lrun_0, enR, stepL, w1, rd _ _ _ _ _ _ _ hr.1, rd _ _ _ _ _ _ _ hr.2, fOr, e]
  | left a =>
    simp only [okR, decide_eq_true_eq] at hr
    refine ⟨some (.str "left"), some (.int a), some (.int (2 * cg c a + m : Nat)), ?_⟩
    have d1 := dm (2 * cg c a + m)
    have d2 := dd (2 * cg c a + m)
    have w1 := fun x2 x3 x4 x6 x7 x8 => wr a ((2 * cg c a + m) % 256) x2 x3 x4 x6 x7 x8 hr
    have mz : mulOk 2 (cg c a : Int) = true := mulOk_l (by decide) (by decide)
    simp only [stepL]
    generalize (2 * cg c a + m) % 256 = lo at *
    generalize (2 * cg c a + m) / 256 = hi at *
    simp at d1 d2
    simp [b_lrun_0, enR, stepL, w1, rd _ _ _ _ _ _ _ hr, mz, divOk, d1, d2]
  | right a =>
    simp only [okR, decide_eq_true_eq] at hr
    refine ⟨some (.str "right"), some (.int a), some (.int (cg c a + 256 * m : Nat)), ?_⟩
    have d1 := em (cg c a + 256 * m)
    have d2 := ed (cg c a + 256 * m)
    have w1 := fun x2 x3 x4 x6 x7 x8 => wr a ((cg c a + 256 * m) / 2) x2 x3 x4 x6 x7 x8 hr
    have mz : mulOk 256 (m : Int) = true := mulOk_l (by decide) (by decide)
    simp only [stepL]
    generalize (cg c a + 256 * m) % 2 = lo at *
    generalize (cg c a + 256 * m) / 2 = hi at *
    simp at d1 d2
    simp [b_lrun_0, enR, stepL, w1, rd _ _ _ _ _ _ _ hr, mz, divOk, d1, d2]
  | mark v =>
    refine ⟨some (.str "mark"), some (.int v), x8, ?_⟩
    simp [b_lrun_0, enR, stepL]
def Cells (c : List Nat) : Prop := c.length = 256 ∧ ∀ i, cg c i < 256
def TabLt (tb : Nat → Nat → Nat) (nt : Nat) : Prop := ∀ k v, k < nt → v < 256 → tb k v < 256
theorem cg_set {c : List Nat} {a v i : Nat} : cg (c.set a v) i = if i = a ∧ a < c.length then v else cg c i := by
  unfold cg
  rw [List.getD_eq_getElem?_getD, List.getD_eq_getElem?_getD, List.getElem?_set]
  by_cases h : a = i
  · subst h
    by_cases h2 : a < c.length
    · simp [h2]
    · simp [h2, List.getElem?_eq_none (Nat.le_of_not_lt h2)]
  · have : ¬ (i = a) := fun e => h e.symm
    simp [h, this]
theorem Cells.set {c : List Nat} (h : Cells c) {a v : Nat} (hv : v < 256) : Cells (c.set a v) := by
  refine ⟨by rw [List.length_set]; exact h.1, fun i => ?_⟩
  rw [cg_set]
  split
  · exact hv
  · exact h.2 i
theorem step_cells {tb : Nat → Nat → Nat} {nt : Nat} (hb : TabLt tb nt) {c : List Nat} {m : Nat} (h : Cells c) (hm : m < 2) (r : Rw) (hr : okR nt r = true) : Cells (stepL tb r (c, m)).1 ∧ (stepL tb r (c, m)).2 < 2 := by
  cases r with
  | put a v =>
    simp only [okR, Bool.and_eq_true, decide_eq_true_eq] at hr
    exact ⟨h.set hr.2, hm⟩
  | copy a b => exact ⟨h.set (h.2 b), hm⟩
  | look a k =>
    simp only [okR, Bool.and_eq_true, decide_eq_true_eq] at hr
    exact ⟨h.set (hb _ _ hr.2 (h.2 a)), hm⟩
  | add a b =>
    have h1 := h.2 a
    have h2 := h.2 b
    exact ⟨h.set (Nat.mod_lt _ (by decide)), by simp only [stepL]; omega⟩
  | addc a b =>
    have h1 := h.2 a
    have h2 := h.2 b
    exact ⟨h.set (Nat.mod_lt _ (by decide)), by simp only [stepL]; omega⟩
  | and_ a b => exact ⟨h.set (Nat.lt_of_le_of_lt Nat.and_le_left (h.2 a)), hm⟩
  | or_ a b => exact ⟨h.set (Nat.or_lt_two_pow (n := 8) (h.2 a) (h.2 b)), hm⟩
  | left a => exact ⟨h.set (Nat.mod_lt _ (by decide)), by have := h.2 a; simp only [stepL]; omega⟩
  | right a => exact ⟨h.set (by have := h.2 a; simp only []; omega), by simp only [stepL]; omega⟩
  | mark v =>
    simp only [okR, decide_eq_true_eq] at hr
    exact ⟨h, hr⟩
theorem run_cells {tb : Nat → Nat → Nat} {nt : Nat} (hb : TabLt tb nt) : ∀ (rs : List Rw) (c : List Nat) (m : Nat), Cells c → m < 2 → rs.all (okR nt) = true → Cells (runL tb rs (c, m)).1 ∧ (runL tb rs (c, m)).2 < 2
  | [], c, m, h, hm, _ => ⟨h, hm⟩
  | r :: rs, c, m, h, hm, hr => by
    rw [List.all_cons, Bool.and_eq_true] at hr
    obtain ⟨h1, h2⟩ := step_cells hb h hm r hr.1
    exact run_cells hb rs (stepL tb r (c, m)).1 (stepL tb r (c, m)).2 h1 h2 hr.2
theorem lrun_loop {tb : Nat → Nat → Nat} {nt : Nat} {tabs : List MV} (ht : TabsAre tb nt tabs) (hb : TabLt tb nt) (x0 x5 : Option MV) : ∀ (rs : List Rw) (c : List Nat) (m : Nat) (x3 x6 x7 x8 : Option MV), Cells c → m < 2 → rs.all (okR nt) = true →
    ∃ y3 y6 y7 y8, mLoop (gSet 3) b_lrun_0 (rs.map enR) [x0, some (.own (encC c)), some (.int m), x3, some (.tup tabs), x5, x6, x7, x8] = .ok (.nx, [x0, some (.own (encC (runL tb rs (c, m)).1)), some (.int (runL tb rs (c, m)).2), y3, some (.tup tabs), x5, y6, y7, y8])
  | [], c, m, x3, x6, x7, x8, _, _, _ => ⟨x3, x6, x7, x8, rfl⟩
  | r :: rs, c, m, x3, x6, x7, x8, h, hm, hr => by
    rw [List.all_cons, Bool.and_eq_true] at hr
    obtain ⟨y6, y7, y8, e⟩ := lrun_step ht h.1 h.2 (m := m) r hr.1 x0 x5 x6 x7 x8
    obtain ⟨h1, h2⟩ := step_cells hb h hm r hr.1
    obtain ⟨z3, z6, z7, z8, ih⟩ := lrun_loop ht hb x0 x5 rs (stepL tb r (c, m)).1 (stepL tb r (c, m)).2 (some (enR r)) y6 y7 y8 h1 h2 hr.2
    refine ⟨z3, z6, z7, z8, ?_⟩
    rw [List.map_cons, mLoop]
    show (b_lrun_0 [x0, some (.own (encC c)), some (.int m), some (enR r), some (.tup tabs), x5, x6, x7, x8]).bind _ = _
    rw [e]
    exact ih
theorem lrun_eq {tb : Nat → Nat → Nat} {nt : Nat} {tabs : List MV} (ht : TabsAre tb nt tabs) (hb : TabLt tb nt) (rs : List Rw) (c : List Nat) (m : Nat) (h : Cells c) (hm : m < 2) (hr : rs.all (okR nt) = true) :
    f_lrun [.tup [.tup tabs, .tup (rs.map enR)], .lst (encC c), .int m] = .ok (.tup [.lst (encC (runL tb rs (c, m)).1), .int (runL tb rs (c, m)).2], []) := by
  refine mFn_ok ?_
  have hl : (encC c).length ≤ sizeLine := by unfold encC; rw [List.length_map, h.1, sizeLine_eq]; decide
  obtain ⟨y3, y6, y7, y8, lp⟩ := lrun_loop ht hb (some (.tup [.tup tabs, .tup (rs.map enR)])) (some (.tup (rs.map enR))) rs c m none none none none h hm hr
  have bl : bList [.lst (encC c)] = some (.lst (encC c)) := rfl
  generalize rs.map enR = R at *
  generalize encC c = C at *
  simp [m_lrun, lp, szOk_small, bl]
inductive Ab where
  | r (x : Rw) | lk (c : Nat) (w : Str)
def layA (s : List Str × List Rw) : Ab → List Str × List Rw
  | .r x => (s.1, s.2 ++ [x])
  | .lk c w => (lkW s.1 w, s.2 ++ [.look c (lkI s.1 w)])
def lays (as : List Ab) (s : List Str × List Rw) : List Str × List Rw := as.foldl layA s
def okAb : Ab → Bool
  | .r _ => true
  | .lk _ w => fnNames.contains w
def Gd (s : List Str × List Rw) (k : Nat) : Prop := s.1.Nodup ∧ (∀ z ∈ s.1, z ∈ fnNames) ∧ s.2.length + k < 16777216
theorem nodup_le : ∀ {l m : List Str}, l.Nodup → (∀ z ∈ l, z ∈ m) → l.length ≤ m.length
  | [], m, _, _ => Nat.zero_le _
  | a :: l, m, h, hs => by
    obtain ⟨h1, h2⟩ := List.nodup_cons.mp h
    have ha := hs a (by simp)
    have ih := @nodup_le l (m.erase a) h2 (fun z hz => by
      have ne : z ≠ a := fun e => h1 (by rw [← e]; exact hz)
      exact (List.mem_erase_of_ne ne).mpr (hs z (List.mem_cons_of_mem _ hz)))
    rw [List.length_erase_of_mem ha] at ih
    have := List.length_pos_of_mem ha
    simp; omega
theorem Gd.len {s : List Str × List Rw} {k : Nat} (h : Gd s k) : s.1.length < 100 := by
  have h1 : s.1.length ≤ fnNames.length := nodup_le h.1 fun z hz => h.2.1 z hz
  have h2 : fnNames.length < 100 := by decide +kernel
  omega
theorem Gd.less {s : List Str × List Rw} {k j : Nat} (h : Gd s k) (hj : j ≤ k) : Gd s j := ⟨h.1, h.2.1, by have := h.2.2; omega⟩
theorem layA_len (s : List Str × List Rw) (a : Ab) : (layA s a).2.length = s.2.length + 1 := by cases a <;> simp [layA]
theorem lkW_nodup {ws : List Str} {w : Str} (h : ws.Nodup) : (lkW ws w).Nodup := by
  unfold lkW
  split
  · exact h
  · rename_i hn
    rw [List.nodup_append]
    refine ⟨h, by simp, ?_⟩
    intro a ha b hb e
    rw [List.mem_singleton.mp hb] at e
    exact hn (e ▸ ha)
theorem Gd.step {s : List Str × List Rw} {k : Nat} (h : Gd s (k + 1)) {a : Ab} (ha : okAb a = true) : Gd (layA s a) k := by
  refine ⟨?_, ?_, by rw [layA_len]; have := h.2.2; omega⟩
  · cases a with
    | r x => exact h.1
    | lk c w => exact lkW_nodup h.1
  · cases a with
    | r x => exact h.2.1
    | lk c w =>
      intro z hz
      have hw : w ∈ fnNames := List.contains_iff_mem.mp ha
      simp only [layA] at hz
      unfold lkW at hz
      split at hz
      · exact h.2.1 z hz
      · rcases List.mem_append.mp hz with hz | hz
        · exact h.2.1 z hz
        · rw [List.mem_singleton.mp hz]; exact hw
theorem Gd.lays {k : Nat} : ∀ {as : List Ab} {s : List Str × List Rw}, Gd s (as.length + k) → as.all okAb = true → Gd (lays as s) k
  | [], s, h, _ => by simpa [Tm.lays] using h
  | a :: as, s, h, ha => by
    rw [List.all_cons, Bool.and_eq_true] at ha
    have h1 : Gd (layA s a) (as.length + k) := Gd.step (h.less (by simp; omega)) ha.1
    show Gd (Tm.lays as (layA s a)) k
    exact Gd.lays h1 ha.2
def bS (fr : Nat) (s : List Str × List Rw) : MV := Bo fr s.1 (s.2.map enR) tabW
theorem runL_app (tb : Nat → Nat → Nat) (a b : List Rw) (s : List Nat × Nat) : runL tb (a ++ b) s = runL tb b (runL tb a s) := List.foldl_append
section
variable {fr : Nat} {s : List Str × List Rw} {ρ : Env} {x y z : Option MV}
@[simp] theorem bS_held : (bS fr s).held = true := nr rfl
end
theorem nm (w : Str) (h : fnNames.contains w = true) : w ∈ fnNames := List.contains_iff_mem.mp h
theorem rg_dn (k : Nat) (hk : k ≤ 64) : rgOk ((k : Int) - 1) (-1) (-1) = true ∧ (Builtin.Range.rangeSize ((k : Int) - 1) (-1) (-1)).toNat = k := by
  have : ∀ k : Fin 65, rgOk ((k.val : Int) - 1) (-1) (-1) = true ∧ (Builtin.Range.rangeSize ((k.val : Int) - 1) (-1) (-1)).toNat = k.val := by decide +kernel
  exact this ⟨k, by omega⟩
theorem encC_len (c : List Nat) : (encC c).length = c.length := by simp [encC]
abbrev CF := Nat → Nat
theorem cg_app_l {a b : List Nat} {i : Nat} (h : i < a.length) : cg (a ++ b) i = cg a i := by
  unfold cg
  rw [List.getD_eq_getElem?_getD, List.getD_eq_getElem?_getD, List.getElem?_append_left h]
theorem seq_nx {a b : MS} {ρ ρ1 : Env} {R : Res (Fl × Env)} (h : a ρ = .ok (.nx, ρ1)) (h2 : b ρ1 = R) : mSeq a b ρ = R := by
  show (a ρ).bind _ = R
  rw [h]; exact h2
theorem room_le2 {kd sg : Str} {n : Nat} (h : 1 ≤ n) : roomM kd sg n ≤ n := by
  have : manyM n sg ≤ n + 1 := by unfold manyM; split <;> omega
  unfold roomM
  split <;> omega
theorem encC_app (a b : List Nat) : encC (a ++ b) = encC a ++ encC b := by simp [encC]
def w2 : List MV := [.str "left", .str "right"]
theorem fil_loop (d : List Int) (d3 d4 d5 : Nat) (h3 : atI (d.map MV.int) 3 = some (.int d3)) (h4 : atI (d.map MV.int) 4 = some (.int d4)) (h5 : atI (d.map MV.int) 5 = some (.int d5)) (x0 x1 x2 : Option MV) :
    ∃ c : List Nat, c.length = 256 ∧ (∀ b ∈ c, b < 256) ∧ ∃ y5 y6, mLoop (gSet 5) b_lfilled_0 (rngM 0 1 256) [x0, x1, x2, some (.lst (d.map MV.int)), some (.own []), none, none] = .ok (.nx, [x0, x1, x2, some (.lst (d.map MV.int)), some (.own (encC c)), y5, y6]) := by
  obtain ⟨ρ', e, c, hc1, hc2, y5, y6, rfl⟩ := loop_nxr (g := gSet 5) (b := b_lfilled_0) (lo := 0) (c := 1) (n := 256) (ρ := [x0, x1, x2, some (.lst (d.map MV.int)), some (.own []), none, none])
    (fun i ρ => ∃ c : List Nat, c.length = i ∧ (∀ b ∈ c, b < 256) ∧ ∃ y5 y6, ρ = [x0, x1, x2, some (.lst (d.map MV.int)), some (.own (encC c)), y5, y6]) ⟨[], rfl, by simp, none, none, rfl⟩ (by
      rintro i ρ hi ⟨c, hc1, hc2, y5, y6, rfl⟩
      have k0 : ((0 : Int) + (i : Nat) * 1) = (i : Int) := by omega
      have m1 : ∀ q : Int, mulOk q (i : Int) = true := fun q => mulOk_r (by omega) (by omega)
      have e2 : ((((d3 : Int) * i + d4) * i + d5)) = (((d3 * i + d4) * i + d5 : Nat) : Int) := by simp
      have e3 := nat_fmod ((d3 * i + d4) * i + d5) 65519
      have e4 := nat_fdiv (((d3 * i + d4) * i + d5) % 65519) 7
      have e5 := nat_fmod (((d3 * i + d4) * i + d5) % 65519 / 7) 256
      have sz : (encC c).length < sizeLine := by rw [encC_len, hc1, sizeLine_eq]; omega
      refine ⟨_, rfl, [x0, x1, x2, some (.lst (d.map MV.int)), some (.own (encC (c ++ [((d3 * i + d4) * i + d5) % 65519 / 7 % 256]))), some (.int i), some (.int (((d3 * i + d4) * i + d5 : Nat) : Int))], ?_, _, by rw [List.length_append, hc1]; rfl, ?_, _, _, rfl⟩
      · rw [encC_app, k0]
        have e6 : encC [((d3 * i + d4) * i + d5) % 65519 / 7 % 256] = [.int ((((d3 * i + d4) * i + d5) % 65519 / 7 % 256 : Nat) : Int)] := rfl
        rw [e6]
        show b_lfilled_0 [x0, x1, x2, some (.lst (d.map MV.int)), some (.own (encC c)), some (.int i), y6] = _
        generalize ((d3 * i + d4) * i + d5) % 65519 / 7 % 256 = v3 at *
        generalize ((d3 * i + d4) * i + d5) % 65519 / 7 = v2 at *
        generalize ((d3 * i + d4) * i + d5) % 65519 = v1 at *
        generalize (d3 * i + d4) * i + d5 = v0 at *
        generalize encC c = C at *
        generalize d.map MV.int = D at *
        have e3' : ((v0 : Int)).fmod 65519 = v1 := e3
        have e4' : ((v1 : Int)).fdiv 7 = v2 := e4
        have e5' : ((v2 : Int)).fmod 256 = v3 := e5
        simp [b_lfilled_0, h3, h4, h5, m1, e2, divOk, e3', e4', e5', isOwn, lmAppend, sz]
      · intro b hb
        rcases List.mem_append.mp hb with hb | hb
        · exact hc2 b hb
        · rw [List.mem_singleton.mp hb]; exact Nat.mod_lt _ (by decide))
  exact ⟨c, hc1, hc2, y5, y6, e⟩
theorem encC_rep (n v : Nat) : encC (List.replicate n v) = List.replicate n (.int v) := by simp [encC]
theorem lfilled_any {T : List MV → MV} (hT : T = MV.tup ∨ T = MV.lst) (cell salt : Int) (F : List Nat) (hF : F.length ≤ 256) (hb : ∀ b ∈ F, b < 256) : ∃ (c : List Nat) (m : Nat), Cells c ∧ m < 2 ∧ (∀ j, j < F.length → cg c j = cg F j) ∧ f_lfilled [.int cell, .int salt, T (encC F)] = .ok (.tup [.lst (encC c), .int m], []) := by
  obtain ⟨ds, hd, hds⟩ := ldraws_ok cell salt [2, 5, 256, 65519, 65519, 65519] (by decide) (by decide)
  simp only [draws_cons, draws_nil] at hd
  obtain ⟨d0, _, rfl, q0, d1, _, rfl, q1, d2, _, rfl, q2, d3, _, rfl, q3, d4, _, rfl, q4, d5, _, rfl, q5, rfl⟩ := hd
  obtain ⟨m, rfl⟩ : ∃ m : Nat, (m : Int) = d0 := ⟨d0.toNat, by omega⟩
  obtain ⟨e2, rfl⟩ : ∃ m : Nat, (m : Int) = d2 := ⟨d2.toNat, by omega⟩
  obtain ⟨e3, rfl⟩ : ∃ m : Nat, (m : Int) = d3 := ⟨d3.toNat, by omega⟩
  obtain ⟨e4, rfl⟩ : ∃ m : Nat, (m : Int) = d4 := ⟨d4.toNat, by omega⟩
  obtain ⟨e5, rfl⟩ : ∃ m : Nat, (m : Int) = d5 := ⟨d5.toNat, by omega⟩
  -- what is taken of the rest
  have main : ∃ rest : List Nat, rest.length = 256 ∧ (∀ b ∈ rest, b < 256) ∧ f_lfilled [.int cell, .int salt, T (encC F)] = .ok (.tup [.lst (encC (F ++ rest.drop F.length)), .int m], []) := by
    have r0 : ∀ v : Nat, fMultL (.lst [.int v]) (.int 256) = some (encC (List.replicate 256 v)) := fun v => by
      have := @fMultL_1 (.int v) 256 (by omega)
      rw [encC_rep]; exact this
    have cutF : ∀ rest : List Nat, cutM (encC rest) (some (F.length : Int)) none = encC (rest.drop F.length) := fun rest => by
      rw [cutM_from (by omega), Int.toNat_natCast]
      show (rest.map _).drop _ = _
      rw [← List.map_drop]; rfl
    have fin : ∀ rest : List Nat, rest.length = 256 → ∀ (b : MS) (y5 y6 : Option MV), True := fun _ _ _ _ _ => trivial
    have lF : (encC F).length = F.length := encC_len F
    have szF : szOk F.length = true := szOk_small (by omega)
    have bl : bList [T (encC F)] = some (.lst (encC F)) := by rcases hT with rfl | rfl <;> rfl
    have app : ∀ rest : List Nat, rest.length = 256 → fAdd (.lst (encC F)) (.lst (encC (rest.drop F.length))) = some (.lst (encC (F ++ rest.drop F.length))) := fun rest hr => by
      rw [fAdd_ll, encC_len, encC_len, List.length_drop, hr, encC_app]
      exact if_pos (szOk_small (by omega))
    by_cases c3 : 2 < d1
    · obtain ⟨c, l1, l2, y5, y6, lp⟩ := fil_loop [(m : Int), d1, e2, e3, e4, e5] e3 e4 e5 rfl rfl rfl (some (.int cell)) (some (.int salt)) (some (T (encC F)))
      refine ⟨c, l1, l2, mFn_ok ?_⟩
      have r00 := r0 0
      have a1 := app c l1
      have a2 := cutF c
      generalize encC (F ++ c.drop F.length) = Z at *
      generalize encC (c.drop F.length) = Y at *
      generalize encC c = C at *
      generalize encC (List.replicate 256 0) = R0 at *
      generalize encC F = FF at *
      have n1 : ¬ d1 = 1 := by omega
      have n2 : ¬ d1 = 2 := by omega
      have ir : inR (256 : Int) = true := inR_of (by omega) (by omega)
      simp at hds lp r00
      rcases hT with rfl | rfl <;> simp [m_lfilled, hds, r00, n1, n2, c3, szOk_small, ir, lp, bl, lF, szF, a2, a1, slV]
    · by_cases c1 : d1 = 1
      · subst c1
        refine ⟨List.replicate 256 255, by simp, by intro b hb; have := List.eq_of_mem_replicate hb; omega, mFn_ok ?_⟩
        have r00 := r0 0
        have r01 := r0 255
        have a1 := app (List.replicate 256 255) (by simp)
        have a2 := cutF (List.replicate 256 255)
        generalize encC (F ++ (List.replicate 256 255).drop F.length) = Z at *
        generalize encC ((List.replicate 256 255).drop F.length) = Y at *
        generalize encC (List.replicate 256 255) = C at *
        generalize encC (List.replicate 256 0) = R0 at *
        generalize encC F = FF at *
        simp at hds r00 r01
        rcases hT with rfl | rfl <;> simp [m_lfilled, hds, r00, r01, szOk_small, bl, lF, szF, a2, a1, slV]
      · by_cases c2 : d1 = 2
        · subst c2
          refine ⟨List.replicate 256 e2, by simp, by intro b hb; have := List.eq_of_mem_replicate hb; omega, mFn_ok ?_⟩
          have r00 := r0 0
          have r01 := r0 e2
          have a1 := app (List.replicate 256 e2) (by simp)
          have a2 := cutF (List.replicate 256 e2)
          generalize encC (F ++ (List.replicate 256 e2).drop F.length) = Z at *
          generalize encC ((List.replicate 256 e2).drop F.length) = Y at *
          generalize encC (List.replicate 256 e2) = C at *
          generalize encC (List.replicate 256 0) = R0 at *
          generalize encC F = FF at *
          simp at hds r00 r01
          rcases hT with rfl | rfl <;> simp [m_lfilled, hds, r00, r01, szOk_small, bl, lF, szF, a2, a1, slV]
        · have c0 : d1 = 0 := by omega
          subst c0
          refine ⟨List.replicate 256 0, by simp, by intro b hb; have := List.eq_of_mem_replicate hb; omega, mFn_ok ?_⟩
          have r00 := r0 0
          have a1 := app (List.replicate 256 0) (by simp)
          have a2 := cutF (List.replicate 256 0)
          generalize encC (F ++ (List.replicate 256 0).drop F.length) = Z at *
          generalize encC ((List.replicate 256 0).drop F.length) = Y at *
          generalize encC (List.replicate 256 0) = R0 at *
          generalize encC F = FF at *
          simp at hds r00
          rcases hT with rfl | rfl <;> simp [m_lfilled, hds, r00, szOk_small, bl, lF, szF, a2, a1, slV]
  obtain ⟨rest, l1, l2, e⟩ := main
  refine ⟨F ++ rest.drop F.length, m, ⟨?_, fun i => ?_⟩, by omega, fun j hj => cg_app_l hj, e⟩
  · rw [List.length_append, List.length_drop, l1]; omega
  · unfold cg
    rw [List.getD_eq_getElem?_getD]
    cases h : (F ++ rest.drop F.length)[i]? with
    | none => show (0 : Nat) < 256; decide
    | some v =>
      rcases List.mem_append.mp (List.mem_of_getElem? h) with hm | hm
      · exact hb v hm
      · exact l2 v (List.mem_of_mem_drop hm)
theorem lfilled_ok (cell salt : Int) (F : List Nat) (hF : F.length ≤ 256) (hb : ∀ b ∈ F, b < 256) : ∃ (c : List Nat) (m : Nat), Cells c ∧ m < 2 ∧ (∀ j, j < F.length → cg c j = cg F j) ∧ f_lfilled [.int cell, .int salt, .tup (encC F)] = .ok (.tup [.lst (encC c), .int m], []) := lfilled_any (.inl rfl) cell salt F hF hb
theorem encC_take {c : List Nat} {k : Nat} (h : k ≤ c.length) : (encC c).take k = encC ((List.range k).map (cg c)) := by
  show (c.map _).take k = _
  rw [← List.map_take]
  show encC (c.take k) = _
  congr 1
  apply List.ext_getElem?
  intro i
  rw [List.getElem?_map]
  by_cases hi : i < k
  · rw [List.getElem?_take_of_lt hi, List.getElem?_range hi, List.getElem?_eq_getElem (by omega)]
    show _ = some (cg c i)
    unfold cg
    rw [List.getD_eq_getElem?_getD, List.getElem?_eq_getElem (by omega)]; rfl
  · rw [List.getElem?_eq_none (by rw [List.length_take]; omega), List.getElem?_eq_none (by simp; omega)]; rfl
theorem cbE_b2 {f : MF} {x v : MV} {ys : List MV} {args : List BA} {ρ : Env} {r q y : Option MV} (h : x.held = true) (hf : fill args (r :: q :: some x :: ρ) = some ys) (hi : idxB args = []) (en : f (x :: ys) = .ok (v, [y])) : cbE f (.b 2 :: args) (r :: q :: some x :: ρ) = .ok (v, r :: q :: y :: ρ) := by
  rw [cbE_ap]
  have e : fill (.b 2 :: args) (r :: q :: some x :: ρ) = some (x :: ys) := by
    rw [fill_b, hf]
    simp [h]
  rw [e]
  show (match f (x :: ys) with | .ok (v, os) => _ | .exc e os => _ | .stuck => _) = _
  rw [en]
  rw [idxB_b, hi]
  rfl
section
variable {f : MF} {fr fr' : Nat} {s s' : List Str × List Rw} {a b c d v : MV}
theorem cd1 (en : f [bS fr s, a] = .ok (v, [some (bS fr' s')])) (r q : Option MV) (ρ : Env) : cbE f [.b 2, .v a] (r :: q :: some (bS fr s) :: ρ) = .ok (v, r :: q :: some (bS fr' s') :: ρ) := cbE_b2 rfl rfl rfl en
theorem cd2 (en : f [bS fr s, a, b] = .ok (v, [some (bS fr' s')])) (r q : Option MV) (ρ : Env) : cbE f [.b 2, .v a, .v b] (r :: q :: some (bS fr s) :: ρ) = .ok (v, r :: q :: some (bS fr' s') :: ρ) := cbE_b2 rfl rfl rfl en
theorem cd3 (en : f [bS fr s, a, b, c] = .ok (v, [some (bS fr' s')])) (r q : Option MV) (ρ : Env) : cbE f [.b 2, .v a, .v b, .v c] (r :: q :: some (bS fr s) :: ρ) = .ok (v, r :: q :: some (bS fr' s') :: ρ) := cbE_b2 rfl rfl rfl en
theorem cd4 (en : f [bS fr s, a, b, c, d] = .ok (v, [some (bS fr' s')])) (r q : Option MV) (ρ : Env) : cbE f [.b 2, .v a, .v b, .v c, .v d] (r :: q :: some (bS fr s) :: ρ) = .ok (v, r :: q :: some (bS fr' s') :: ρ) := cbE_b2 rfl rfl rfl en
end
structure Bs (L : List Str) : Prop where
  ah : ("ahead_of_last" : Str) ∈ L
  la : ("last_figure" : Str) ∈ L
  ni : ("nine_less" : Str) ∈ L
  hi : ("high_half" : Str) ∈ L
  lo : ("low_half" : Str) ∈ L
  up : ("half_up" : Str) ∈ L
  te : ("ten_or_none" : Str) ∈ L
  fi : ("five_on" : Str) ∈ L
  on : ("one_or_none" : Str) ∈ L
  be : ("sign_below" : Str) ∈ L
  tw : ("one_of_two" : Str) ∈ L
theorem ok2 {a b : Nat} (ha : a < 256) (hb : b < 256) : (decide (a < 256) && decide (b < 256)) = true := by rw [decide_eq_true ha, decide_eq_true hb]; rfl
def kdM (a : Int) : Str := if a = 0 then "packed" else "spread"
def sgM (s : Int) : Str := if s = 0 then "none" else if s = 1 then "end" else "tens"
theorem kdM_or (a : Int) : kdM a = "packed" ∨ kdM a = "spread" := by unfold kdM; split <;> simp
theorem sgM_or (s : Int) : sgM s = "none" ∨ sgM s = "end" ∨ sgM s = "tens" := by
  unfold sgM
  split
  · exact .inl rfl
  · split
    · exact .inr (.inl rfl)
    · exact .inr (.inr rfl)
theorem lform_kd2 {a s : Int} {k n : Nat} (ha : 0 ≤ a ∧ a < 2) (hm : k < 50) (hs : 0 ≤ s ∧ s < 3) (hn : n = 1 + k) : ∃ pt : Int, f_lform [.int a, .int k, .int s] = .ok (Form (kdM a) n (sgM s) (.int pt), []) := by
  have h1 : ¬ ((k : Int) + 2 = 0) := by omega
  have hk : atI [MV.str "packed", .str "spread"] a = some (.str (kdM a)) := by
    rcases (show a = 0 ∨ a = 1 by omega) with rfl | rfl <;> rfl
  have hg : atI [MV.str "none", .str "end", .str "tens"] s = some (.str (sgM s)) := by
    rcases (show s = 0 ∨ s = 1 ∨ s = 2 by omega) with rfl | rfl | rfl <;> rfl
  have key : ∃ pt ρ, m_lform [some (.int a), some (.int k), some (.int s), none] = .ok (.rt (.tup [.str (kdM a), .int (1 + (k : Int)), .str (sgM s), .int pt]), ρ) := by
    generalize kdM a = kd at *
    generalize sgM s = sg at *
    simp [m_lform, mulOk_l, h1, szOk_small, hk, hg]
  obtain ⟨pt, ρ, h⟩ := key
  refine ⟨pt, mFn_ok ⟨ρ, ?_⟩⟩
  have : MV.tup [.str (kdM a), .int (1 + (k : Int)), .str (sgM s), .int pt] = Form (kdM a) n (sgM s) (.int pt) := by rw [hn]; unfold Form; simp
  rw [← this]; exact h
theorem Gd.go {s : List Str × List Rw} {N : Nat} {as : List Ab} (h : Gd s N) (ok : as.all okAb = true) (k : Nat) (hl : as.length + k ≤ N) : Gd (Tm.lays as s) k := Gd.lays (h.less hl) ok
def vb (f : CF) (p : Nat) : Nat → Nat
  | 0 => 0
  | n + 1 => 256 * vb f p n + f (p + n)
def dl : Nat → Nat → List Nat
  | 0, _ => []
  | k + 1, n => n % 256 :: dl k (n / 256)
theorem seq_nxE {a b : MS} {ρ ρ1 : Env} {f : Fl} (h : a ρ = .ok (.nx, ρ1)) (h2 : ∃ ρ', b ρ1 = .ok (f, ρ')) : ∃ ρ', mSeq a b ρ = .ok (f, ρ') := by
  obtain ⟨ρ', e⟩ := h2
  exact ⟨ρ', seq_nx h e⟩
structure TwW (L : List Str) : Prop where
  al : ("all_or_none" : Str) ∈ L
  no : ("none_or_all" : Str) ∈ L
  ot : ("other_twos" : Str) ∈ L
  th : ("ten_high" : Str) ∈ L
  tl : ("ten_low" : Str) ∈ L
  fi : ("fill" : Str) ∈ L
  na : ("not_all" : Str) ∈ L
  on : ("one_or_none" : Str) ∈ L
structure Ls (L : List Str) : Prop where
  ah : ("ahead_of_last" : Str) ∈ L
  la : ("last_figure" : Str) ∈ L
  ni : ("nine_less" : Str) ∈ L
  hi : ("high_half" : Str) ∈ L
  lo : ("low_half" : Str) ∈ L
  te : ("ten_or_none" : Str) ∈ L
  fi : ("five_on" : Str) ∈ L
  be : ("sign_below" : Str) ∈ L
def okN (N nt : Nat) : Rw → Bool
  | .put a v => decide (a < N) && decide (v < 256)
  | .look a k => decide (a < N) && decide (k < nt)
  | .copy a b => decide (a < N) && decide (b < N)
  | .add a b => decide (a < N) && decide (b < N)
  | .addc a b => decide (a < N) && decide (b < N)
  | .and_ a b => decide (a < N) && decide (b < N)
  | .or_ a b => decide (a < N) && decide (b < N)
  | .left a => decide (a < N)
  | .right a => decide (a < N)
  | .mark v => decide (v < 2)
def CellsN (N : Nat) (c : List Nat) : Prop := c.length = N ∧ ∀ i, cg c i < 256
theorem CellsN.set {N : Nat} {c : List Nat} (h : CellsN N c) {a v : Nat} (hv : v < 256) : CellsN N (c.set a v) := by
  refine ⟨by rw [List.length_set]; exact h.1, fun i => ?_⟩
  rw [cg_set]
  split
  · exact hv
  · exact h.2 i
def codeD (d : Str) : Nat := if d = "ahead" then 2 else if d = "figure" then 0 else if d = "zone" then 3 else 1
def goodsC : List (List Nat) := [[0, 1, 2, 3, 4, 5, 6, 7, 8, 9], [10, 11, 12, 13, 14, 15], [0], [15]]
def halfC (hi : Bool) (b : Nat) : Nat := if hi then b / 16 else b % 16
def flagC (hi : Bool) (g : List Nat) (b : Nat) : Nat := if g.contains (halfC hi b) then 0 else 255
def chkT (k b : Nat) : Nat := if k = 8 then 255 - b else flagC (decide (k < 4)) (goodsC.getD (k % 4) []) b
def chkTab (k : Nat) : MV := .tup ((List.range 256).map fun b => .int (chkT k b))
theorem inM_enc (h : Nat) (g : List Nat) : inM (.int h) (encC g) = some (g.contains h) := by
  have f : (encC g).all flatM = true := by
    rw [List.all_eq_true]
    intro x hx
    obtain ⟨d, _, rfl⟩ := List.mem_map.mp hx
    rfl
  have e : (encC g).any (fun x => eqFlat x (.int h)) = g.contains h := by
    unfold encC
    rw [List.any_map]
    induction g with
    | nil => rfl
    | cons a g ih =>
      rw [List.any_cons, List.contains_cons, ih (by
        rw [List.all_eq_true]
        intro x hx
        obtain ⟨d, _, rfl⟩ := List.mem_map.mp hx
        rfl)]
      congr 1
      show ((a : Int) == (h : Int)) = (h == a)
      by_cases q : a = h
      · subst q; simp
      · have : ¬ ((a : Int) = (h : Int)) := by omega
        have q2 : ¬ (h = a) := fun e => q e.symm
        rw [beq_eq_false_iff_ne.mpr this, beq_eq_false_iff_ne.mpr q2]
  unfold inM
  rw [f, e]; rfl
theorem flag_table_eq (hi : Bool) (g : List Nat) : f_pflag_table [.bl hi, .tup (encC g)] = .ok (.tup ((List.range 256).map fun b => .int (flagC hi g b)), []) := by
  refine mFn_ok ?_
  obtain ⟨ρ', e, a4, a3, rfl⟩ := loop_nxr (g := gSet 3) (b := b_pflag_table_0) (lo := 0) (c := 1) (n := 256) (ρ := [some (.bl hi), some (.tup (encC g)), some (.own []), none, none])
    (fun k ρ => ∃ a3 a4, ρ = [some (.bl hi), some (.tup (encC g)), some (.own ((List.range k).map fun b => .int (flagC hi g b))), a3, a4]) ⟨none, none, rfl⟩ (by
      rintro k ρ hk ⟨a3, a4, rfl⟩
      refine ⟨_, rfl, [some (.bl hi), some (.tup (encC g)), some (.own ((List.range (k + 1)).map fun b => .int (flagC hi g b))), some (.int k), some (.int (halfC hi k : Nat))], ?_, _, _, rfl⟩
      have hl : ((List.range k).map fun b => MV.int (flagC hi g b)).length < sizeLine := by rw [List.length_map, List.length_range, sizeLine_eq]; omega
      have d1 : hi = true → (k : Int).fdiv 16 = ((halfC hi k : Nat) : Int) := by rintro rfl; exact nat_fdiv _ 16
      have d2 : hi = false → (k : Int).fmod 16 = ((halfC hi k : Nat) : Int) := by rintro rfl; exact nat_fmod _ 16
      have fi : fIn (.int (halfC hi k : Nat)) (.tup (encC g)) = some (.bl (g.contains (halfC hi k))) := by
        show (inM _ _).map _ = _
        rw [inM_enc]; rfl
      have nx : (List.range (k + 1)).map (fun b => MV.int (flagC hi g b)) = (List.range k).map (fun b => MV.int (flagC hi g b)) ++ [.int (flagC hi g k)] := by
        rw [List.range_succ, List.map_append]; rfl
      rw [nx]
      generalize (List.range k).map (fun b => MV.int (flagC hi g b)) = L at *
      have fg : flagC hi g k = if g.contains (halfC hi k) then 0 else 255 := rfl
      rw [fg]
      generalize encC g = G at *
      generalize halfC hi k = q at *
      generalize g.contains q = cc at *
      clear fg nx
      cases hi with
      | true =>
        have d1 := d1 rfl
        cases cc <;> simp [b_pflag_table_0, d1, divOk, fi, hl]
      | false =>
        have d2 := d2 rfl
        cases cc <;> simp [b_pflag_table_0, d2, divOk, fi, hl])
  have bt : bTuple [.lst ((List.range 256).map fun b => MV.int (flagC hi g b))] = some (.tup ((List.range 256).map fun b => MV.int (flagC hi g b))) := rfl
  have ir : inR 256 = true := inR_of (by decide) (by decide)
  generalize (List.range 256).map (fun b => MV.int (flagC hi g b)) = L at *
  generalize encC g = G at *
  simp [m_pflag_table, ir, e, bt, szOk_small]
theorem look_tables_eq : f_plook_tables [] = .ok (.tup ((List.range 9).map chkTab), []) := by
  refine mFn_ok ?_
  have t1 : ∀ (hi : Bool) (k : Nat) (g : List Nat), k < 8 → goodsC.getD (k % 4) [] = g → hi = decide (k < 4) → f_pflag_table [.bl hi, .tup (encC g)] = .ok (chkTab k, []) := by
    intro hi k g hk hg hh
    subst hg hh
    rw [flag_table_eq]
    unfold chkTab chkT
    have : ¬ k = 8 := by omega
    simp only [this, if_false]
  have f0 := t1 true 0 [0, 1, 2, 3, 4, 5, 6, 7, 8, 9] (by decide) rfl rfl
  have f1 := t1 true 1 [10, 11, 12, 13, 14, 15] (by decide) rfl rfl
  have f2 := t1 true 2 [0] (by decide) rfl rfl
  have f3 := t1 true 3 [15] (by decide) rfl rfl
  have f4 := t1 false 4 [0, 1, 2, 3, 4, 5, 6, 7, 8, 9] (by decide) rfl rfl
  have f5 := t1 false 5 [10, 11, 12, 13, 14, 15] (by decide) rfl rfl
  have f6 := t1 false 6 [0] (by decide) rfl rfl
  have f7 := t1 false 7 [15] (by decide) rfl rfl
  have e8 : ((rngM 0 1 256).map fun z => match z with | .int b => MV.int (255 - b) | _ => .non) = (List.range 256).map fun b => .int (chkT 8 b) := by
    unfold rngM
    rw [List.map_map]
    apply List.map_congr_left
    intro i hi
    have := List.mem_range.mp hi
    show MV.int _ = MV.int _
    congr 1
    unfold chkT
    rw [if_pos rfl]
    omega
  have ir : inR 256 = true := inR_of (by decide) (by decide)
  have r9 : (List.range 9).map chkTab = [chkTab 0, chkTab 1, chkTab 2, chkTab 3, chkTab 4, chkTab 5, chkTab 6, chkTab 7, .tup ((List.range 256).map fun b => .int (chkT 8 b))] := rfl
  have lc2 := fun (x0 x1 x2 : Option MV) => mLcO_nm (it := mR1 (mCons (mC (.int 256)) (mNil))) (e := mOp fSub (mC (.int 255)) (mVar 3)) (v := 3) (xs := rngM 0 1 256) (fun z => match z with | .int b => .int (255 - b) | _ => .non) (ρ := [x0, x1, x2, none]) (by simp [ir]) rfl (by
    intro z hz
    obtain ⟨i, _, rfl⟩ := List.mem_map.mp hz
    simp) (by rw [sizeLine_eq, rngM_len]; decide)
  simp only [e8] at lc2
  rw [r9]
  generalize (List.range 256).map (fun b => MV.int (chkT 8 b)) = L8 at *
  have bt : bTuple [.lst L8] = some (.tup L8) := rfl
  have tt : ∀ k, ∃ ys, chkTab k = .tup ys := fun k => ⟨_, rfl⟩
  obtain ⟨y0, h0⟩ := tt 0
  obtain ⟨y1, h1⟩ := tt 1
  obtain ⟨y2, h2⟩ := tt 2
  obtain ⟨y3, h3⟩ := tt 3
  obtain ⟨y4, h4⟩ := tt 4
  obtain ⟨y5, h5⟩ := tt 5
  obtain ⟨y6, h6⟩ := tt 6
  obtain ⟨y7, h7⟩ := tt 7
  rw [h0] at f0
  rw [h1] at f1
  rw [h2] at f2
  rw [h3] at f3
  rw [h4] at f4
  rw [h5] at f5
  rw [h6] at f6
  rw [h7] at f7
  rw [h0, h1, h2, h3, h4, h5, h6, h7]
  simp [encC] at f0 f1 f2 f3 f4 f5 f6 f7
  have s9 : ∀ n, n ≤ 9 → szOk n = true := fun n h => szOk_small (by omega)
  simp [m_plook_tables, b_plook_tables_0, b_plook_tables_1, mLoop, f0, f1, f2, f3, f4, f5, f6, f7, lc2, bt, szOk_small, sizeLine_eq]
def lookN (kd sg : Str) (n : Nat) : List Nat := (dutiesM kd sg n).map codeD
theorem lookN_len (kd sg : Str) (n : Nat) : (lookN kd sg n).length = 2 * roomM kd sg n := by
  unfold lookN
  rw [List.length_map, duties_len]
theorem codeD_v : codeD "ahead" = 2 ∧ codeD "figure" = 0 ∧ codeD "zone" = 3 ∧ codeD "sign" = 1 := ⟨rfl, rfl, rfl, rfl⟩
theorem codeD_lt (d : Str) : codeD d < 4 := by
  unfold codeD
  split <;> try decide
  split <;> try decide
  split <;> decide
theorem phalf_looks_eq {kd sg : Str} {n : Nat} {p : MV} (hk : kd = "packed" ∨ kd = "spread") (h1 : 1 ≤ n ∧ n < 100) : ∃ V, fz V = some (.lst (encC (lookN kd sg n))) ∧ f_phalf_looks [Form kd n sg p] = .ok (V, []) := by
  obtain ⟨v1, v2, v3, v4⟩ := codeD_v
  have fsl : cutM [.str kd, .int n, .str sg, p] none (some 3) = [.str kd, .int n, .str sg] := rfl
  have r1 := @fMultL_1 (.int 0) n (by omega)
  rcases hk with rfl | rfl
  · refine ⟨.lst _, rfl, mFn_ok ?_⟩
    have hm2 : manyM n sg % 2 < 2 := Nat.mod_lt _ (by decide)
    have r0 := @fMul_1 (.int 2) (manyM n sg % 2) (by omega)
    by_cases he : sg = "end"
    · subst he
      have hm : manyM n "end" = n + 1 := rfl
      have rm : ((n : Int) + 1).fmod 2 = (((n + 1) % 2 : Nat) : Int) := nat_fmod (n + 1) 2
      simp only [hm] at r0 hm2
      have e : encC (lookN "packed" "end" n) = List.replicate ((n + 1) % 2) (.int 2) ++ (List.replicate n (.int 0) ++ [.int 1]) := by
        unfold lookN dutiesM encC
        rw [if_pos rfl, hm]
        simp [v1, v2, v4]
      rw [e]
      generalize (n + 1) % 2 = q at *
      have s1 : szOk (n + 1) = true := szOk_small (by omega)
      have s2 : szOk (q + (n + 1)) = true := szOk_small (by omega)
      have s3 : n < sizeLine := by rw [sizeLine_eq]; omega
      simp [m_phalf_looks, Form, fsl, r0, r1, rm, divOk, szOk_small, s1, s2, s3, packed_ne]
    · have hm : manyM n sg = n := by simp [manyM, he]
      have rm : (n : Int).fmod 2 = ((n % 2 : Nat) : Int) := nat_fmod n 2
      simp only [hm] at r0 hm2
      have e : encC (lookN "packed" sg n) = List.replicate (n % 2) (.int 2) ++ List.replicate n (.int 0) := by
        unfold lookN dutiesM encC
        rw [if_pos rfl, hm]
        simp [v1, v2, he]
      rw [e]
      generalize n % 2 = q at *
      have s1 : szOk n = true := szOk_small (by omega)
      have s2 : szOk (q + n) = true := szOk_small (by omega)
      simp [m_phalf_looks, Form, fsl, r0, r1, rm, divOk, szOk_small, s1, s2, he, packed_ne]
  · refine ⟨.own _, rfl, mFn_ok ?_⟩
    have r2 : fMultL (.lst [.int 3, .int 0]) (.int n) = some (interG (List.replicate n (.int 3)) (List.replicate n (.int 0))) := by
      rw [fMultL_l (by omega) (by omega) (szOk_small (by simp; omega))]
      simp only [Int.toNat_natCast]
      rw [interG_rep]
    by_cases he : sg = "end"
    · subst he
      have e : encC (lookN "spread" "end" n) = interG ((List.replicate n (.int 3)).set (n - 1) (.int 1)) (List.replicate n (.int 0)) := by
        unfold lookN dutiesM zoneD encC
        rw [if_neg spread_ne, if_pos rfl, interG_map, interG_map, List.map_set, List.map_set]
        simp [v2, v3, v4]
      have z3 : ∀ ρ : Env, ρ[1]? = some (some (.own (interG (List.replicate n (.int 3)) (List.replicate n (.int 0))))) → setIxM 1 (.int 1) (.int (-2)) ρ = .ok (.nx, ρ.set 1 (some (.own (encC (lookN "spread" "end" n))))) := fun ρ h => by
        rw [setIxM_o h (j := 2 * (n - 1)) (by rw [interG_len _ _ (by simp)]; simp only [List.length_replicate]; exact ixN_neg2 h1.1), interG_set _ _ _ _ (by simp) (by simp; omega), e]
      generalize encC (lookN "spread" "end" n) = L at *
      simp [m_phalf_looks, Form, spread_ne, fsl, szOk_small, r2, z3]
    · have e : encC (lookN "spread" sg n) = interG (List.replicate n (.int 3)) (List.replicate n (.int 0)) := by
        unfold lookN dutiesM zoneD encC
        rw [if_neg spread_ne, if_neg he, interG_map, interG_map]
        simp [v2, v3]
      rw [e]
      simp [m_phalf_looks, Form, spread_ne, fsl, szOk_small, r2, he]
def chkRows (place wanted : Nat) : List Rw := [.copy 253 (place / 2), .look 253 (wanted + 4 * (place % 2)), .copy 254 253, .look 254 8, .and_ 252 254, .put 255 (place + 1), .and_ 255 253, .or_ 252 255]
theorem plook_rows_eq (place wanted : Nat) : f_plook_rows [.int place, .int wanted] = .ok (.lst ((chkRows place wanted).map enR), []) := by
  refine mFn_ok ?_
  have d1 : (place : Int).fmod 2 = ((place % 2 : Nat) : Int) := nat_fmod _ 2
  have d2 : (place : Int).fdiv 2 = ((place / 2 : Nat) : Int) := nat_fdiv _ 2
  have mz : mulOk 4 ((place % 2 : Nat) : Int) = true := mulOk_l (by decide) (by decide)
  have e : (chkRows place wanted).map enR = [.tup [.str "copy", .int 253, .int (place / 2 : Nat)], .tup [.str "look", .int 253, .int ((wanted : Int) + 4 * (place % 2 : Nat))], .tup [.str "copy", .int 254, .int 253], .tup [.str "look", .int 254, .int 8], .tup [.str "and", .int 252, .int 254], .tup [.str "put", .int 255, .int (place + 1)], .tup [.str "and", .int 255, .int 253], .tup [.str "or", .int 252, .int 255]] := rfl
  rw [e]
  generalize place % 2 = q1 at *
  generalize place / 2 = q2 at *
  simp [m_plook_rows, d1, d2, mz, divOk, szOk_small, fAddL]
def chkAll : List Nat → Nat → List Rw
  | ws, 0 => []
  | ws, k + 1 => chkRows k (cg ws k) ++ chkAll ws k
def chkP (ws : List Nat) : List Rw := .put 252 0 :: (chkAll ws ws.length ++ [.copy 0 252, .mark 0])
theorem pcheck_rows_eq {kd sg : Str} {n : Nat} {p : MV} (hk : kd = "packed" ∨ kd = "spread") (h1 : 1 ≤ n ∧ n ≤ 12) : f_pcheck_rows [Form kd n sg p] = .ok (.tup [.tup ((List.range 9).map chkTab), .tup ((chkP (lookN kd sg n)).map enR)], []) := by
  obtain ⟨V, v1, v2⟩ := @phalf_looks_eq kd sg n p hk ⟨h1.1, by omega⟩
  have lt := look_tables_eq
  have hl := lookN_len kd sg n
  have hr := @room_le2 kd sg n h1.1
  generalize hW : lookN kd sg n = ws at *
  have wl : ws.length ≤ 26 := by omega
  have down : ∀ (k : Nat) (acc : List Rw) (x3 : Option MV), k ≤ ws.length → acc.length + 8 * k ≤ 1000 → ∃ y3, mLoop (gSet 3) b_pcheck_rows_0 (rngM ((k : Int) - 1) (-1) k) [some (Form kd n sg p), some (.lst (encC ws)), some (.own (acc.map enR)), x3] = .ok (.nx, [some (Form kd n sg p), some (.lst (encC ws)), some (.own ((acc ++ chkAll ws k).map enR)), y3]) := by
    intro k
    induction k with
    | zero => intro acc x3 _ _; exact ⟨x3, by rw [chkAll, List.append_nil]; rfl⟩
    | succ k ih =>
      intro acc x3 hk2 hz
      have rg : rngM (((k + 1 : Nat) : Int) - 1) (-1) (k + 1) = .int (k : Nat) :: rngM ((k : Int) - 1) (-1) k := by
        unfold rngM
        rw [List.range_succ_eq_map, List.map_cons, List.map_map]
        congr 1
        · simp
        · apply List.map_congr_left
          intro i _
          show MV.int _ = MV.int _
          congr 1
          simp
          omega
      rw [rg]
      obtain ⟨y3, e⟩ := ih (acc ++ chkRows k (cg ws k)) (some (.int (k : Nat))) (by omega) (by rw [List.length_append]; simp [chkRows]; omega)
      refine ⟨y3, ?_⟩
      rw [chkAll, ← List.append_assoc, ← e]
      have at_ : atI (encC ws) (k : Int) = some (.int (cg ws k : Nat)) := encC_at (by omega)
      have pr := plook_rows_eq k (cg ws k)
      have ln : ((chkRows k (cg ws k)).map enR).length = 8 := by rw [List.length_map]; rfl
      have la : (acc.map enR).length + 8 ≤ sizeLine := by rw [List.length_map, sizeLine_eq]; omega
      have la2 : szOk ((acc.map enR).length + 8) = true := szOk_iff.mpr la
      rw [List.map_append]
      generalize (chkRows k (cg ws k)).map enR = R at *
      generalize acc.map enR = A at *
      generalize hfm : Form kd n sg p = fm at *
      generalize encC ws = E at *
      generalize cg ws k = w at *
      rw [mLoop]
      show (b_pcheck_rows_0 [some fm, some (.lst E), some (.own A), some (.int (k : Nat))]).bind _ = _
      have st : b_pcheck_rows_0 [some fm, some (.lst E), some (.own A), some (.int (k : Nat))] = .ok (.nx, [some fm, some (.lst E), some (.own (A ++ R)), some (.int (k : Nat))]) := by
        simp [b_pcheck_rows_0, at_, pr, lmExtend, ln, la2, szOk_small, isOwn]
      rw [st]
      rfl
  obtain ⟨y3, e⟩ := down ws.length [Rw.put 252 0] none (Nat.le_refl _) (by simp; omega)
  refine mFn_ok ?_
  have e2 : (chkP ws).map enR = (([Rw.put 252 0] ++ chkAll ws ws.length).map enR) ++ [.tup [.str "copy", .int 0, .int 252], .tup [.str "mark", .int 0]] := by
    unfold chkP
    rw [List.map_cons, List.map_append, List.map_append]
    rfl
  have ln : ((([Rw.put 252 0] ++ chkAll ws ws.length).map enR)).length < 1000 := by
    have ca : ∀ k, (chkAll ws k).length = 8 * k := by
      intro k
      induction k with
      | zero => rfl
      | succ k ih => rw [chkAll, List.length_append, ih]; simp [chkRows]; omega
    rw [List.length_map, List.length_append, ca]
    simp; omega
  rw [e2]
  have p0 : [Rw.put 252 0].map enR = [.tup [.str "put", .int 252, .int 0]] := rfl
  simp only [p0] at e
  have el : (encC ws).length = ws.length := encC_len ws
  have szw : szOk ws.length = true := szOk_small (by omega)
  have s2 : szOk (([Rw.put 252 0] ++ chkAll ws ws.length).map enR).length = true := szOk_small (by omega)
  have s3 : szOk ((([Rw.put 252 0] ++ chkAll ws ws.length).map enR).length + 2) = true := szOk_small (by omega)
  generalize ([Rw.put 252 0] ++ chkAll ws ws.length).map enR = R at *
  generalize (List.range 9).map chkTab = T at *
  have bt : ∀ L : List MV, bTuple [.lst L] = some (.tup L) := fun _ => rfl
  obtain ⟨r3, r4⟩ := rg_dn ws.length (by omega)
  generalize hfm : Form kd n sg p = fm at *
  obtain ⟨fx, rfl⟩ : ∃ fx, fm = .tup fx := ⟨_, hfm.symm⟩
  generalize encC ws = E at *
  simp [m_pcheck_rows, v1, v2, lt, el, szw, r3, r4, e, bt, szOk_small, s2, s3]
theorem chk_bad {d : Str} {q b : Nat} (hq : q < 2) (hb : b < 256) : chkT (codeD d + 4 * q) b = if rightM d (if q = 0 then b / 16 else b % 16) then 0 else 255 := by
  have cl := codeD_lt d
  have k1 : ∀ h, h < 16 → ([0, 1, 2, 3, 4, 5, 6, 7, 8, 9] : List Nat).contains h = decide (h < 10) := by decide
  have k2 : ∀ h, h < 16 → ([10, 11, 12, 13, 14, 15] : List Nat).contains h = decide (9 < h) := by decide
  have k3 : ∀ h, h < 16 → ([0] : List Nat).contains h = decide (h = 0) := by decide
  have k4 : ∀ h, h < 16 → ([15] : List Nat).contains h = decide (h = 15) := by decide
  have hh : halfC (decide (codeD d + 4 * q < 4)) b = if q = 0 then b / 16 else b % 16 := by
    unfold halfC
    by_cases h0 : q = 0
    · subst h0
      rw [if_pos (by simpa using cl), if_pos rfl]
    · rw [if_neg (by simp; omega), if_neg h0]
  have h16 : (if q = 0 then b / 16 else b % 16) < 16 := by split <;> omega
  unfold chkT
  rw [if_neg (by omega)]
  unfold flagC
  rw [hh, show (codeD d + 4 * q) % 4 = codeD d by omega]
  generalize (if q = 0 then b / 16 else b % 16) = h at *
  have e : (goodsC.getD (codeD d) []).contains h = rightM d h := by
    unfold codeD rightM
    split
    · exact k3 h h16
    · split
      · exact k1 h h16
      · split
        · exact k4 h h16
        · exact k2 h h16
  rw [e]
theorem chkT_lt (k v : Nat) (hv : v < 256) : chkT k v < 256 := by
  unfold chkT flagC
  split
  · omega
  · split <;> decide
def CR (c : List Nat) (m : Nat) (p : List Nat × Nat) (a : Nat) : Prop := Cells p.1 ∧ p.2 = m ∧ (∀ i, i < 252 → cg p.1 i = cg c i) ∧ cg p.1 252 = a
theorem chkRows_run {c0 : List Nat} {m place w a : Nat} {p : List Nat × Nat} (hp : CR c0 m p a) (ha : a < 256) (hpl : place < 100) :
    CR c0 m (runL chkT (chkRows place w) p) (if chkT (w + 4 * (place % 2)) (cg c0 (place / 2)) = 255 then place + 1 else if chkT (w + 4 * (place % 2)) (cg c0 (place / 2)) = 0 then a else cg (runL chkT (chkRows place w) p).1 252) := by
  obtain ⟨c, m'⟩ := p
  obtain ⟨hc, rfl, h2, h3⟩ := hp
  simp only at hc h2 h3
  have hl := hc.1
  have hv := hc.2 (place / 2)
  have e0 := h2 (place / 2) (by omega)
  rw [e0] at hv
  have hf := chkT_lt (w + 4 * (place % 2)) _ hv
  have r : runL chkT (chkRows place w) (c, m') = (((((((((c.set 253 (cg c0 (place / 2))).set 253 (chkT (w + 4 * (place % 2)) (cg c0 (place / 2)))).set 254 (chkT (w + 4 * (place % 2)) (cg c0 (place / 2)))).set 254 (255 - chkT (w + 4 * (place % 2)) (cg c0 (place / 2)))).set 252 (a &&& (255 - chkT (w + 4 * (place % 2)) (cg c0 (place / 2))))).set 255 (place + 1)).set 255 ((place + 1) &&& chkT (w + 4 * (place % 2)) (cg c0 (place / 2)))).set 252 ((a &&& (255 - chkT (w + 4 * (place % 2)) (cg c0 (place / 2)))) ||| ((place + 1) &&& chkT (w + 4 * (place % 2)) (cg c0 (place / 2))))), m') := by
    have t8 : ∀ v, chkT 8 v = 255 - v := fun v => if_pos rfl
    simp [runL, chkRows, stepL, cg_set, hl, e0, h3, t8]
  rw [r]
  generalize chkT (w + 4 * (place % 2)) (cg c0 (place / 2)) = f at *
  have x1 : a &&& (255 - f) < 256 := Nat.lt_of_le_of_lt Nat.and_le_left ha
  have x2 : (place + 1) &&& f < 256 := Nat.lt_of_le_of_lt Nat.and_le_left (by omega)
  refine ⟨?_, rfl, ?_, ?_⟩
  · exact (((((((hc.set hv).set hf).set hf).set (by omega)).set x1).set (by omega)).set x2).set (Nat.or_lt_two_pow (n := 8) x1 x2)
  · intro i hi
    simp only
    repeat rw [cg_set, if_neg (by omega)]
    exact h2 i hi
  · simp only [cg_set, List.length_set, hl]
    rw [if_pos ⟨trivial, by decide⟩]
    have m8 : ∀ x, x < 256 → x &&& 255 = x := fun x hx => by
      have := Nat.and_two_pow_sub_one_eq_mod x 8
      rw [Nat.mod_eq_of_lt hx] at this
      exact this
    by_cases f1 : f = 255
    · subst f1
      rw [if_pos rfl, m8 _ (by omega), show (255 - 255 : Nat) = 0 from rfl, Nat.and_zero, Nat.zero_or]
    · rw [if_neg f1]
      by_cases f0 : f = 0
      · subst f0
        rw [if_pos rfl, show (255 - 0 : Nat) = 255 from rfl, m8 _ ha, Nat.and_zero, Nat.or_zero]
      · rw [if_neg f0]
def ansC (bad : Nat → Bool) : Nat → Nat → Nat
  | 0, a => a
  | k + 1, a => ansC bad k (if bad k then k + 1 else a)
theorem ansC_none {bad : Nat → Bool} : ∀ (n a : Nat), (∀ j, j < n → bad j = false) → ansC bad n a = a
  | 0, _, _ => rfl
  | n + 1, a, h => by
    rw [ansC, h n (by omega)]
    exact ansC_none n a fun j hj => h j (by omega)
theorem ansC_some {bad : Nat → Bool} : ∀ (n j a : Nat), j < n → bad j = true → (∀ i, i < j → bad i = false) → ansC bad n a = j + 1
  | 0, _, _, h, _, _ => by omega
  | n + 1, j, a, h, h1, h2 => by
    rw [ansC]
    by_cases e : j = n
    · subst e
      rw [h1]
      exact ansC_none j _ h2
    · exact ansC_some n j _ (by omega) h1 h2
def badC (ds : List Str) (c : List Nat) (j : Nat) : Bool := !rightM (ds.getD j "") (if j % 2 = 0 then cg c (j / 2) / 16 else cg c (j / 2) % 16)
theorem chkAll_run {c0 : List Nat} {m : Nat} (ds : List Str) (hc0 : ∀ i, cg c0 i < 256) : ∀ (k a : Nat) (p : List Nat × Nat), k ≤ ds.length → k ≤ 90 → CR c0 m p a → a < 256 → CR c0 m (runL chkT (chkAll (ds.map codeD) k) p) (ansC (badC ds c0) k a)
  | 0, a, p, _, _, h, _ => h
  | k + 1, a, p, hk, h90, h, ha => by
    rw [chkAll, runL_app, ansC]
    have s := chkRows_run (place := k) (w := cg (ds.map codeD) k) h ha (by omega)
    have ew : cg (ds.map codeD) k = codeD (ds.getD k "") := by
      unfold cg
      rw [List.getD_eq_getElem?_getD, List.getD_eq_getElem?_getD, List.getElem?_map, List.getElem?_eq_getElem (by omega)]; rfl
    rw [ew] at s ⊢
    rw [chk_bad (Nat.mod_lt _ (by decide)) (hc0 _)] at s
    have e : badC ds c0 k = !rightM (ds.getD k "") (if k % 2 = 0 then cg c0 (k / 2) / 16 else cg c0 (k / 2) % 16) := rfl
    rw [e]
    refine chkAll_run ds hc0 k _ _ (by omega) (by omega) ?_ ?_
    · cases hr : rightM (ds.getD k "") (if k % 2 = 0 then cg c0 (k / 2) / 16 else cg c0 (k / 2) % 16) with
      | true => rw [hr] at s; exact s
      | false => rw [hr] at s; exact s
    · generalize (!rightM (ds.getD k "") (if k % 2 = 0 then cg c0 (k / 2) / 16 else cg c0 (k / 2) % 16)) = bb
      cases bb
      · exact ha
      · show k + 1 < 256; omega
def chkAns (kd sg : Str) (n : Nat) (c : List Nat) : Nat := ansC (badC (dutiesM kd sg n) c) (2 * roomM kd sg n) 0
theorem chkP_run {kd sg : Str} {n : Nat} (hn : 1 ≤ n ∧ n ≤ 12) {c : List Nat} {m : Nat} (hc : Cells c) : Cells (runL chkT (chkP (lookN kd sg n)) (c, m)).1 ∧ (runL chkT (chkP (lookN kd sg n)) (c, m)).2 = 0 ∧ cg (runL chkT (chkP (lookN kd sg n)) (c, m)).1 0 = chkAns kd sg n c := by
  have hr := @room_le2 kd sg n hn.1
  have dl := duties_len kd sg n
  have ll : (lookN kd sg n).length = 2 * roomM kd sg n := lookN_len kd sg n
  unfold chkP
  rw [show ∀ r l, runL chkT (r :: l) (c, m) = runL chkT l (stepL chkT r (c, m)) from fun _ _ => rfl, runL_app, ll]
  have h0 : CR c m (stepL chkT (.put 252 0) (c, m)) 0 := ⟨hc.set (by decide), rfl, fun i hi => by show cg (c.set 252 0) i = _; rw [cg_set, if_neg (by omega)], by show cg (c.set 252 0) 252 = _; rw [cg_set, if_pos ⟨rfl, by rw [hc.1]; decide⟩]⟩
  have h := chkAll_run (dutiesM kd sg n) hc.2 (2 * roomM kd sg n) 0 _ (by omega) (by omega) h0 (by decide)
  show Cells (runL chkT [.copy 0 252, .mark 0] (runL chkT (chkAll (lookN kd sg n) (2 * roomM kd sg n)) _)).1 ∧ _
  have h : CR c m (runL chkT (chkAll (lookN kd sg n) (2 * roomM kd sg n)) (stepL chkT (.put 252 0) (c, m))) (chkAns kd sg n c) := h
  generalize runL chkT (chkAll (lookN kd sg n) (2 * roomM kd sg n)) (stepL chkT (.put 252 0) (c, m)) = p at *
  obtain ⟨q1, q2, q3, q4⟩ := h
  have lt : chkAns kd sg n c < 256 := by rw [← q4]; exact q1.2 252
  have e : runL chkT [.copy 0 252, .mark 0] p = (p.1.set 0 (cg p.1 252), 0) := rfl
  rw [e, q4]
  exact ⟨q1.set lt, rfl, by simp only; rw [cg_set, if_pos ⟨rfl, by rw [q1.1]; decide⟩]⟩
theorem scan_first (due : List Str) : ∀ (hs : List Nat) (k : Nat), k + hs.length ≤ due.length → (scanM due k hs = none ∧ ∀ i, i < hs.length → rightM (due.getD (k + i) "") (hs.getD i 0) = true) ∨ ∃ j, j < hs.length ∧ scanM due k hs = some (k + j, due.getD (k + j) "") ∧ rightM (due.getD (k + j) "") (hs.getD j 0) = false ∧ ∀ i, i < j → rightM (due.getD (k + i) "") (hs.getD i 0) = true
  | [], k, _ => .inl ⟨rfl, fun i hi => by simp at hi⟩
  | h :: hs, k, hl => by
    rw [List.length_cons] at hl
    unfold scanM
    rw [if_neg (by omega)]
    cases hr : rightM (due.getD k "") h with
    | false => exact .inr ⟨0, by simp, by simp, by simpa using hr, fun i hi => by omega⟩
    | true =>
      rw [if_pos rfl]
      rcases scan_first due hs (k + 1) (by omega) with ⟨a, b⟩ | ⟨j, a, b, c, d⟩
      · refine .inl ⟨a, fun i hi => ?_⟩
        cases i with
        | zero => simpa using hr
        | succ i =>
          have := b i (by simpa using hi)
          rw [show k + 1 + i = k + (i + 1) by omega] at this
          simpa using this
      · refine .inr ⟨j + 1, by simpa using a, by rw [b, show k + 1 + j = k + (j + 1) by omega], ?_, fun i hi => ?_⟩
        · rw [show k + 1 + j = k + (j + 1) by omega] at c
          simpa using c
        · cases i with
          | zero => simpa using hr
          | succ i =>
            have := d i (by omega)
            rw [show k + 1 + i = k + (i + 1) by omega] at this
            simpa using this
theorem halvesOf_at : ∀ (row : List Nat) (i : Nat), i < 2 * row.length → (halvesOf row).getD i 0 = if i % 2 = 0 then cg row (i / 2) / 16 else cg row (i / 2) % 16
  | [], i, h => by simp at h
  | b :: r, 0, _ => rfl
  | b :: r, 1, _ => rfl
  | b :: r, i + 2, h => by
    have ih := halvesOf_at r i (by simp at h; omega)
    have e : (halvesOf (b :: r)).getD (i + 2) 0 = (halvesOf r).getD i 0 := rfl
    rw [e, ih, show (i + 2) % 2 = i % 2 by omega, show (i + 2) / 2 = i / 2 + 1 by omega]
    rfl
def chkO : Option (Nat × Str) → Nat
  | none => 0
  | some r => r.1 + 1
theorem chk_caught {kd sg : Str} {n : Nat} {row c : List Nat} (hl : row.length = roomM kd sg n) (hc : ∀ j, j < row.length → cg c j = cg row j) :
    chkAns kd sg n c = chkO (caughtM (dutiesM kd sg n) (halvesOf row)) := by
  have dl := duties_len kd sg n
  have hhl := halvesOf_len row
  have bd : ∀ j, j < 2 * row.length → badC (dutiesM kd sg n) c j = !rightM ((dutiesM kd sg n).getD j "") ((halvesOf row).getD j 0) := fun j hj => by
    rw [halvesOf_at row j hj]
    unfold badC
    rw [hc (j / 2) (by omega)]
  unfold chkAns caughtM
  rcases scan_first (dutiesM kd sg n) (halvesOf row) 0 (by omega) with ⟨a, b⟩ | ⟨j, a, b, d, e⟩
  · rw [a, if_neg (by omega)]
    refine ansC_none _ _ fun j hj => ?_
    have := b j (by omega)
    rw [Nat.zero_add] at this
    rw [bd j (by omega), this]; rfl
  · rw [b]
    simp only [Nat.zero_add] at d e ⊢
    show _ = j + 1
    refine ansC_some _ j _ (by omega) (by rw [bd j (by omega), d]; rfl) fun i hi => ?_
    rw [bd i (by omega), e i hi]; rfl
theorem tabs_gen (tb : Nat → Nat → Nat) (nt : Nat) : TabsAre tb nt ((List.range nt).map fun k => .tup ((List.range 256).map fun b => .int (tb k b))) := by
  intro k hk
  rw [atI_ge (by omega), Int.toNat_natCast, List.getElem?_map, List.getElem?_range hk]; rfl
theorem lafter_gen {tb : Nat → Nat → Nat} {nt : Nat} {tabs : List MV} {rs : List Rw} (ht : TabsAre tb nt tabs) (hb : TabLt tb nt) (hr : rs.all (okR nt) = true) (cell salt : Int) (F : List Nat) (many : Nat) (hF : F.length ≤ 256) (hF2 : ∀ b ∈ F, b < 256) (hm : many ≤ 256) :
    ∃ (c : List Nat) (m : Nat), Cells c ∧ m < 2 ∧ (∀ j, j < F.length → cg c j = cg F j) ∧ f_lafter [.tup [.tup tabs, .tup (rs.map enR)], .tup (encC F), .int cell, .int salt, .int many] = .ok (.tup [.tup (encC ((List.range many).map (cg (runL tb rs (c, m)).1))), .int (runL tb rs (c, m)).2], []) := by
  obtain ⟨c, m, hc, hm2, hcF, e⟩ := lfilled_ok cell salt F hF hF2
  have e2 := lrun_eq ht hb rs c m hc hm2 hr
  obtain ⟨hc', hm'⟩ := run_cells hb rs c m hc hm2 hr
  refine ⟨c, m, hc, hm2, hcF, mFn_ok ?_⟩
  have e3 := encC_take (k := many) (c := (runL tb rs (c, m)).1) (by rw [hc'.1]; exact hm)
  have e4 : cutM (encC (runL tb rs (c, m)).1) none (some (many : Int)) = encC ((List.range many).map (cg (runL tb rs (c, m)).1)) := by
    rw [cutM_to (by omega), Int.toNat_natCast, e3]
  generalize encC ((List.range many).map (cg (runL tb rs (c, m)).1)) = Z at *
  generalize rs.map enR = R at *
  generalize encC (runL tb rs (c, m)).1 = C' at *
  generalize (runL tb rs (c, m)).2 = m' at *
  generalize encC c = C at *
  generalize encC F = FF at *
  have bt : bTuple [.lst Z] = some (.tup Z) := rfl
  simp [m_lafter, e, e2, e4, szOk_small]
theorem chk_lt : TabLt chkT 9 := fun k v _ hv => chkT_lt k v hv
theorem chkAll_ok (ws : List Nat) (hw : ∀ w ∈ ws, w < 4) : ∀ k, k ≤ 100 → (chkAll ws k).all (okR 9) = true
  | 0, _ => rfl
  | k + 1, h => by
    rw [chkAll, List.all_append, chkAll_ok ws hw k (by omega), Bool.and_true]
    have hw4 : cg ws k < 4 := by
      unfold cg
      rw [List.getD_eq_getElem?_getD]
      cases e : ws[k]? with
      | none => show (0 : Nat) < 4; decide
      | some w => exact hw w (List.mem_of_getElem? e)
    have q := Nat.mod_lt k (show 0 < 2 by decide)
    simp [chkRows, okR]
    omega
theorem chkP_ok (kd sg : Str) {n : Nat} (hn : 1 ≤ n ∧ n ≤ 12) : (chkP (lookN kd sg n)).all (okR 9) = true ∧ (chkP (lookN kd sg n)).length ≤ 9000 := by
  have hr := @room_le2 kd sg n hn.1
  have ll := lookN_len kd sg n
  have hw : ∀ w ∈ lookN kd sg n, w < 4 := fun w hw => by
    obtain ⟨d, _, rfl⟩ := List.mem_map.mp hw
    exact codeD_lt d
  have ca : ∀ k, (chkAll (lookN kd sg n) k).length = 8 * k := by
    intro k
    induction k with
    | zero => rfl
    | succ k ih => rw [chkAll, List.length_append, ih]; simp [chkRows]; omega
  have := chkAll_ok _ hw (lookN kd sg n).length (by omega)
  refine ⟨?_, ?_⟩
  · unfold chkP
    rw [List.all_cons, List.all_append, this]
    rfl
  · unfold chkP
    rw [List.length_cons, List.length_append, ca]
    simp; omega
theorem chk_after {kd sg : Str} {n : Nat} (hn : 1 ≤ n ∧ n ≤ 12) {row : List Nat} (hl : row.length = roomM kd sg n) (hb : ∀ b ∈ row, b < 256) (cell salt : Int) :
    f_lafter [.tup [.tup ((List.range 9).map chkTab), .tup ((chkP (lookN kd sg n)).map enR)], .tup (encC row), .int cell, .int salt, .int 1] = .ok (.tup [.tup [.int (chkO (caughtM (dutiesM kd sg n) (halvesOf row)) : Nat)], .int 0], []) := by
  have hr := @room_le2 kd sg n hn.1
  obtain ⟨c, m, hc, hm2, hcF, e⟩ := lafter_gen (tabs_gen chkT 9) chk_lt (chkP_ok kd sg hn).1 cell salt row 1 (by omega) hb (by decide)
  obtain ⟨_, p2, p3⟩ := chkP_run (kd := kd) (sg := sg) hn (m := m) hc
  rw [← chk_caught hl hcF]
  have e1 : encC ((List.range 1).map (cg (runL chkT (chkP (lookN kd sg n)) (c, m)).1)) = [.int (chkAns kd sg n c : Nat)] := by
    show [MV.int (cg (runL chkT (chkP (lookN kd sg n)) (c, m)).1 0 : Nat)] = _
    rw [p3]
  rw [e1, p2] at e
  exact e
theorem duties_mem {kd sg : Str} {n : Nat} : ∀ d ∈ dutiesM kd sg n, d = "ahead" ∨ d = "figure" ∨ d = "zone" ∨ d = "sign" := by
  intro d hd
  unfold dutiesM at hd
  split at hd
  · simp only [List.mem_append, List.mem_replicate] at hd
    rcases hd with (⟨_, rfl⟩ | ⟨_, rfl⟩) | hd
    · exact .inl rfl
    · exact .inr (.inl rfl)
    · split at hd
      · exact .inr (.inr (.inr (List.mem_singleton.mp hd)))
      · simp at hd
  · unfold interG at hd
    simp only [List.mem_flatten] at hd
    obtain ⟨l, hl, hd⟩ := hd
    obtain ⟨i, hi, rfl⟩ := List.mem_iff_getElem.mp hl
    simp only [List.getElem_zipWith, List.mem_cons, List.not_mem_nil, or_false] at hd
    rcases hd with rfl | rfl
    · unfold zoneD
      split
      · rw [List.getElem_set]
        split
        · exact .inr (.inr (.inr rfl))
        · simp
      · simp
    · simp
def BK : List Key := [.inr "ahead", .inr "figure", .inr "zone", .inr "sign"]
def BV : List MV := [.tup [.int 0, .int 0], .tup [.int 0, .int 9], .tup [.int 15, .int 15], .tup [.int 10, .int 15]]
theorem bnd_of {d : Str} (h : d = "ahead" ∨ d = "figure" ∨ d = "zone" ∨ d = "sign") : ∃ lo hi : Int, fDix (.dct BK BV) (.str d) = some (.tup [.int lo, .int hi]) ∧ ∀ x : Nat, x < 16 → rightM d x = (decide (lo ≤ x) && decide ((x : Int) ≤ hi)) := by
  rcases h with rfl | rfl | rfl | rfl
  · exact ⟨0, 0, rfl, by decide⟩
  · exact ⟨0, 9, rfl, by decide⟩
  · exact ⟨15, 15, rfl, by decide⟩
  · exact ⟨10, 15, rfl, by decide⟩
theorem rngM_cons1 (k : Int) (m : Nat) : rngM k 1 (m + 1) = .int k :: rngM (k + 1) 1 m := by
  unfold rngM
  rw [List.range_succ_eq_map, List.map_cons, List.map_map]
  congr 1
  · simp
  · apply List.map_congr_left
    intro i _
    show MV.int _ = MV.int _
    congr 1
    simp; omega
theorem lcaught_loop (due : List Str) (hs : List Nat) (hd : ∀ d ∈ due, d = "ahead" ∨ d = "figure" ∨ d = "zone" ∨ d = "sign") (hh : ∀ h ∈ hs, h < 16) (hz : due.length = hs.length) (hs0 : hs.length < 1000) (x0 x1 x4 : Option MV) : ∀ (m k : Nat) (x6 x7 x8 : Option MV), k + m = hs.length → match scanM due k (hs.drop k) with
    | some r => ∃ ρ', mLoop (gSet 6) b_lcaught_1 (rngM (k : Int) 1 m) [x0, x1, some (.own (due.map MV.str)), some (.lst (encC hs)), x4, some (.dct BK BV), x6, x7, x8] = .ok (.rt (encR r), ρ')
    | none => ∃ y6 y7 y8, mLoop (gSet 6) b_lcaught_1 (rngM (k : Int) 1 m) [x0, x1, some (.own (due.map MV.str)), some (.lst (encC hs)), x4, some (.dct BK BV), x6, x7, x8] = .ok (.nx, [x0, x1, some (.own (due.map MV.str)), some (.lst (encC hs)), x4, some (.dct BK BV), y6, y7, y8])
  | 0, k, x6, x7, x8, hm => by
    rw [List.drop_eq_nil_of_le (by omega)]
    exact ⟨x6, x7, x8, rfl⟩
  | m + 1, k, x6, x7, x8, hm => by
    have hlt : k < hs.length := by omega
    rw [List.drop_eq_getElem_cons hlt]
    unfold scanM
    rw [if_neg (by omega)]
    have h16 := hh _ (List.getElem_mem hlt)
    have dm : due.getD k "" ∈ due := by
      rw [List.getD_eq_getElem?_getD, List.getElem?_eq_getElem (by omega)]
      exact List.getElem_mem _
    obtain ⟨lo, hi, f1, f2⟩ := bnd_of (hd _ dm)
    have f2 := f2 _ h16
    have a1 : atI (due.map MV.str) (k : Int) = some (.str (due.getD k "")) := due_at (by omega)
    have a2 : atI (encC hs) (k : Int) = some (.int (hs[k] : Nat)) := by
      have := encC_at hlt
      unfold cg at this
      rw [List.getD_eq_getElem?_getD, List.getElem?_eq_getElem hlt] at this
      exact this
    have sz : szOk (encC hs).length = true := szOk_small (by rw [encC_len]; omega)
    have ln : (encC hs).length = hs.length := encC_len hs
    have n1 : ¬ ((hs.length : Int) ≤ k) := by omega
    have ix : ∀ x6 x7 x8 : Option MV, ixV [x0, x1, some (.own (due.map MV.str)), some (.lst (encC hs)), x4, some (.dct BK BV), x6, x7, x8] 2 (.int k) = some (.str (due.getD k "")) := fun _ _ _ => by
      unfold ixV
      exact a1
    have st : mLoop (gSet 6) b_lcaught_1 (rngM (k : Int) 1 (m + 1)) [x0, x1, some (.own (due.map MV.str)), some (.lst (encC hs)), x4, some (.dct BK BV), x6, x7, x8] =
      (b_lcaught_1 [x0, x1, some (.own (due.map MV.str)), some (.lst (encC hs)), x4, some (.dct BK BV), some (.int k), x7, x8]).bind fun f' ρ2 => match f' with
        | .nx => mLoop (gSet 6) b_lcaught_1 (rngM ((k : Int) + 1) 1 m) ρ2
        | .ct => mLoop (gSet 6) b_lcaught_1 (rngM ((k : Int) + 1) 1 m) ρ2
        | .br => .ok (.nx, ρ2)
        | .rt v => .ok (.rt v, ρ2) := by
      rw [rngM_cons1]; rfl
    rw [st]
    have ih := lcaught_loop due hs hd hh hz hs0 x0 x1 x4 m (k + 1) (some (.int k)) (some (.int lo)) (some (.int hi)) (by omega)
    rw [show ((k + 1 : Nat) : Int) = (k : Int) + 1 by omega] at ih
    generalize due.getD k "" = d at *
    generalize hs[k] = h at *
    generalize hE : encC hs = E at *
    generalize due.map MV.str = D at *
    generalize BK = bk at *
    generalize BV = bv at *
    cases hr : rightM d h with
    | true =>
      rw [hr] at f2
      have f2 : lo ≤ (h : Int) ∧ (h : Int) ≤ hi := by
        have := f2.symm
        simpa using this
      have bd : b_lcaught_1 [x0, x1, some (.own D), some (.lst E), x4, some (.dct bk bv), some (.int k), x7, x8] = .ok (.nx, [x0, x1, some (.own D), some (.lst E), x4, some (.dct bk bv), some (.int k), some (.int lo), some (.int hi)]) := by
        simp [b_lcaught_1, sz, ln, n1, ix, f1, a2, f2.1, f2.2]
      rw [bd]
      simp only [Res.bind]
      exact ih
    | false =>
      rw [hr] at f2
      have f2 : lo ≤ (h : Int) → ¬ (h : Int) ≤ hi := by
        have := f2.symm
        simpa using this
      have bd : ∃ ρ', b_lcaught_1 [x0, x1, some (.own D), some (.lst E), x4, some (.dct bk bv), some (.int k), x7, x8] = .ok (.rt (encR (k, d)), ρ') := by
        by_cases l : lo ≤ (h : Int)
        · have := f2 l
          simp [b_lcaught_1, sz, ln, n1, ix, f1, a2, l, this, szOk_small, encR]
        · simp [b_lcaught_1, sz, ln, n1, ix, f1, a2, l, szOk_small, encR]
      obtain ⟨ρ', bd⟩ := bd
      exact ⟨ρ', by rw [bd]; rfl⟩
theorem lcaught_eq {kd sg : Str} {n : Nat} {p : MV} (hk : kd = "packed" ∨ kd = "spread") (h1 : 1 ≤ n ∧ n ≤ 12) {row : List Nat} (hl : row.length = roomM kd sg n) (hb : ∀ b ∈ row, b < 256) :
    f_lcaught [Form kd n sg p, .tup (encC row)] = .ok (encO (caughtM (dutiesM kd sg n) (halvesOf row)), []) := by
  have hr := @room_le2 kd sg n h1.1
  have dl := duties_len kd sg n
  have hhl := halvesOf_len row
  have hh := halvesOf_lt row hb
  have r1 := @fMultL_1 (.str "figure") n (by omega)
  have s3 : n < sizeLine := by rw [sizeLine_eq]; omega
  obtain ⟨⟨z', h⟩, _⟩ := loop_junk (σ := List Nat) (β := Option MV) (g := gSet 4) (b := b_lcaught_0) (fun s z => [some (Form kd n sg p), some (.tup (encC row)), some (.own ((dutiesM kd sg n).map MV.str)), some (.lst (encC s)), z, none, none, none, none]) (fun d : Nat => MV.int d) (fun s b => s ++ [b / 16, b % 16]) (fun k s => s.length = 2 * k) row [] none rfl (by
    intro i s z x hx hi hlt
    refine ⟨by simp [hi]; omega, _, rfl, some (.int x), ?_⟩
    have q1 : (x : Int).fdiv 16 = ((x / 16 : Nat) : Int) := nat_fdiv _ 16
    have q2 : (x : Int).fmod 16 = ((x % 16 : Nat) : Int) := nat_fmod _ 16
    have ea : encC (s ++ [x / 16, x % 16]) = encC s ++ [.int (x / 16 : Nat), .int (x % 16 : Nat)] := by unfold encC; rw [List.map_append]; rfl
    have sz : szOk ((encC s).length + 2) = true := szOk_small (by rw [encC_len]; omega)
    rw [ea]
    generalize x / 16 = a1 at *
    generalize x % 16 = a2 at *
    generalize encC s = S at *
    generalize encC row = R at *
    generalize (dutiesM kd sg n).map MV.str = D at *
    simp [b_lcaught_0, divOk, q1, q2, szOk_small, sz, fAddL])
  have e1 : ∀ (l : List Nat) (acc : List Nat), l.foldl (fun s b => s ++ [b / 16, b % 16]) acc = acc ++ halvesOf l := by
    intro l
    induction l with
    | nil => intro acc; simp [halvesOf]
    | cons x l ih => intro acc; rw [List.foldl_cons, ih]; simp [halvesOf]
  rw [e1, List.nil_append] at h
  have hcell : row.map (fun d : Nat => MV.int d) = encC row := rfl
  rw [hcell] at h
  have lp := lcaught_loop (dutiesM kd sg n) (halvesOf row) duties_mem hh (by omega) (by omega) (some (Form kd n sg p)) (some (.tup (encC row))) z' (halvesOf row).length 0 none none none (by omega)
  rw [List.drop_zero] at lp
  have ir : inR ((dutiesM kd sg n).length : Int) = true := inR_of (by omega) (by omega)
  have dlm : ((dutiesM kd sg n).map MV.str).length = (dutiesM kd sg n).length := List.length_map ..
  have szd : szOk (dutiesM kd sg n).length = true := szOk_small (by omega)
  have ehl : (encC (halvesOf row)).length = (halvesOf row).length := encC_len _
  have eqn : (halvesOf row).length = (dutiesM kd sg n).length := by omega
  rw [eqn] at lp
  rw [eqn] at ehl
  have ee : encC ([] : List Nat) = [] := rfl
  rw [ee] at h
  have fin : ∀ R : Res (Fl × Env), (mSeq (mAsg (mLst (mNil)) (gSet 3)) (mSeq (mFor (mItV (mVar 1)) (gSet 4) (b_lcaught_0)) (mSeq (mAsg (mDict [.inr "ahead", .inr "figure", .inr "zone", .inr "sign"] (mCons (mTup (mCons (mC (.int 0)) (mCons (mC (.int 0)) (mNil)))) (mCons (mTup (mCons (mC (.int 0)) (mCons (mC (.int 9)) (mNil)))) (mCons (mTup (mCons (mC (.int 15)) (mCons (mC (.int 15)) (mNil)))) (mCons (mTup (mCons (mC (.int 10)) (mCons (mC (.int 15)) (mNil)))) (mNil)))))) (gSet 5)) (mSeq (mFor (mR1 (mCons (mLenV 2) (mNil))) (gSet 6) (b_lcaught_1)) (mSeq (mIfS (mTest (mOp fGt (mBlt bLen (mCons (mVar 3) (mNil))) (mLenV 2))) (mRet (mTup (mCons (mLenV 2) (mCons (mC (.str "length")) (mNil))))) (mPass)) (mRet (mC .non))))))) [some (Form kd n sg p), some (.tup (encC row)), some (.own ((dutiesM kd sg n).map MV.str)), none, none, none, none, none, none] = R → ∃ ρ, R = .ok (.rt (encO (caughtM (dutiesM kd sg n) (halvesOf row))), ρ) := by
    intro R hR
    subst hR
    unfold caughtM
    have dk : ∀ x4, mAsg (mDict [.inr "ahead", .inr "figure", .inr "zone", .inr "sign"] (mCons (mTup (mCons (mC (.int 0)) (mCons (mC (.int 0)) (mNil)))) (mCons (mTup (mCons (mC (.int 0)) (mCons (mC (.int 9)) (mNil)))) (mCons (mTup (mCons (mC (.int 15)) (mCons (mC (.int 15)) (mNil)))) (mCons (mTup (mCons (mC (.int 10)) (mCons (mC (.int 15)) (mNil)))) (mNil)))))) (gSet 5) [some (Form kd n sg p), some (.tup (encC row)), some (.own ((dutiesM kd sg n).map MV.str)), some (.lst (encC (halvesOf row))), x4, none, none, none, none] = .ok (.nx, [some (Form kd n sg p), some (.tup (encC row)), some (.own ((dutiesM kd sg n).map MV.str)), some (.lst (encC (halvesOf row))), x4, some (.dct BK BV), none, none, none]) := by
      intro x4
      simp [BK, BV, szOk_small]
      rfl
    generalize hfm : Form kd n sg p = fm at *
    have nlt : ¬ ((halvesOf row).length < (dutiesM kd sg n).length) := by omega
    cases e : scanM (dutiesM kd sg n) 0 (halvesOf row) with
    | some r =>
      rw [e] at lp
      obtain ⟨ρ', lp⟩ := lp
      generalize encC (halvesOf row) = H at *
      generalize hD : (dutiesM kd sg n).map MV.str = D at *
      generalize encC row = RR at *
      simp only [encO]
      generalize mDict [.inr "ahead", .inr "figure", .inr "zone", .inr "sign"] (mCons (mTup (mCons (mC (.int 0)) (mCons (mC (.int 0)) (mNil)))) (mCons (mTup (mCons (mC (.int 0)) (mCons (mC (.int 9)) (mNil)))) (mCons (mTup (mCons (mC (.int 15)) (mCons (mC (.int 15)) (mNil)))) (mCons (mTup (mCons (mC (.int 10)) (mCons (mC (.int 15)) (mNil)))) (mNil))))) = MD at *
      simp at lp
      refine seq_nxE (ρ1 := [some fm, some (.tup RR), some (.own D), some (.lst []), none, none, none, none, none]) (by simp [szOk_small]) ?_
      refine seq_nxE h ?_
      refine seq_nxE (dk _) ?_
      generalize BK = bk at *
      generalize BV = bv at *
      simp [dlm, szd, ir, lp]
    | none =>
      rw [e] at lp
      obtain ⟨y6, y7, y8, lp⟩ := lp
      rw [if_neg nlt]
      generalize encC (halvesOf row) = H at *
      generalize hD : (dutiesM kd sg n).map MV.str = D at *
      generalize encC row = RR at *
      simp only [encO]
      generalize mDict [.inr "ahead", .inr "figure", .inr "zone", .inr "sign"] (mCons (mTup (mCons (mC (.int 0)) (mCons (mC (.int 0)) (mNil)))) (mCons (mTup (mCons (mC (.int 0)) (mCons (mC (.int 9)) (mNil)))) (mCons (mTup (mCons (mC (.int 15)) (mCons (mC (.int 15)) (mNil)))) (mCons (mTup (mCons (mC (.int 10)) (mCons (mC (.int 15)) (mNil)))) (mNil))))) = MD at *
      simp at lp
      refine seq_nxE (ρ1 := [some fm, some (.tup RR), some (.own D), some (.lst []), none, none, none, none, none]) (by simp [szOk_small]) ?_
      refine seq_nxE h ?_
      refine seq_nxE (dk _) ?_
      generalize BK = bk at *
      generalize BV = bv at *
      simp [dlm, szd, ir, lp, ehl]
  have st : ∀ R : Res (Fl × Env), (∃ ρ, m_lcaught [some (Form kd n sg p), some (.tup (encC row)), none, none, none, none, none, none, none] = R ∧ R = .ok (.rt (encO (caughtM (dutiesM kd sg n) (halvesOf row))), ρ)) → f_lcaught [Form kd n sg p, .tup (encC row)] = .ok (encO (caughtM (dutiesM kd sg n) (halvesOf row)), []) := by
    rintro R ⟨ρ, h1, h2⟩
    exact mFn_ok ⟨ρ, h1.trans h2⟩
  obtain ⟨ρ, fin⟩ := fin _ rfl
  refine st _ ⟨ρ, ?_, rfl⟩
  rw [← fin]
  clear fin st lp h e1
  unfold m_lcaught
  generalize (mSeq (mAsg (mLst (mNil)) (gSet 3)) _) = REST
  generalize encC row = RR at *
  have hp : ∀ (D : List MV) (a b c d e f : Option MV), mSeq mPass REST [some (Form kd n sg p), some (.tup RR), some (.own D), a, b, c, d, e, f] = REST [some (Form kd n sg p), some (.tup RR), some (.own D), a, b, c, d, e, f] := fun _ _ _ _ _ _ _ => rfl
  rcases hk with rfl | rfl
  · have hm2 : manyM n sg % 2 < 2 := Nat.mod_lt _ (by decide)
    have r0 := @fMul_1 (.str "ahead") (manyM n sg % 2) (by omega)
    by_cases he : sg = "end"
    · subst he
      have hm : manyM n "end" = n + 1 := rfl
      have rm : ((n : Int) + 1).fmod 2 = (((n + 1) % 2 : Nat) : Int) := nat_fmod (n + 1) 2
      simp only [hm] at r0 hm2
      have e : (dutiesM "packed" "end" n).map MV.str = List.replicate ((n + 1) % 2) (.str "ahead") ++ (List.replicate n (.str "figure") ++ [.str "sign"]) := by
        unfold dutiesM
        rw [if_pos rfl, hm]
        simp
      rw [e]
      generalize (n + 1) % 2 = q at *
      have s1 : szOk (n + 1) = true := szOk_small (by omega)
      have s2 : szOk (q + (n + 1)) = true := szOk_small (by omega)
      simp [Form, r0, r1, rm, divOk, szOk_small, s1, s2, s3, packed_ne, fAddL]
    · have hm : manyM n sg = n := by simp [manyM, he]
      have rm : (n : Int).fmod 2 = ((n % 2 : Nat) : Int) := nat_fmod n 2
      simp only [hm] at r0 hm2
      have e : (dutiesM "packed" sg n).map MV.str = List.replicate (n % 2) (.str "ahead") ++ List.replicate n (.str "figure") := by
        unfold dutiesM
        rw [if_pos rfl, hm]
        simp [he]
      rw [e]
      generalize n % 2 = q at *
      have s1 : szOk n = true := szOk_small (by omega)
      have s2 : szOk (q + n) = true := szOk_small (by omega)
      simp [Form, r0, r1, rm, divOk, szOk_small, s1, s2, s3, packed_ne, he, fAddL]
  · have r2 : fMultL (.lst [.str "zone", .str "figure"]) (.int n) = some (interG (List.replicate n (.str "zone")) (List.replicate n (.str "figure"))) := by
      rw [fMultL_l (by omega) (by omega) (szOk_small (by simp; omega))]
      simp only [Int.toNat_natCast]
      rw [interG_rep]
    have q2 := Nat.mod_lt (manyM n sg) (show 0 < 2 by decide)
    have r0 := @fMul_1 (.str "ahead") (manyM n sg % 2) (by omega)
    by_cases he : sg = "end"
    · subst he
      have hm : manyM n "end" = n + 1 := rfl
      have rm : ((n : Int) + 1).fmod 2 = (((n + 1) % 2 : Nat) : Int) := nat_fmod (n + 1) 2
      simp only [hm] at r0 q2
      have e : (dutiesM "spread" "end" n).map MV.str = interG ((List.replicate n (.str "zone")).set (n - 1) (.str "sign")) (List.replicate n (.str "figure")) := by
        unfold dutiesM zoneD
        rw [if_neg spread_ne, if_pos rfl, interG_map, List.map_set]
        simp
      have z3 : ∀ ρ : Env, ρ[2]? = some (some (.own (interG (List.replicate n (.str "zone")) (List.replicate n (.str "figure"))))) → setIxM 2 (.str "sign") (.int (-2)) ρ = .ok (.nx, ρ.set 2 (some (.own ((dutiesM "spread" "end" n).map MV.str)))) := fun ρ h => by
        rw [setIxM_o h (j := 2 * (n - 1)) (by rw [interG_len _ _ (by simp)]; simp only [List.length_replicate]; exact ixN_neg2 h1.1), interG_set _ _ _ _ (by simp) (by simp; omega), e]
      generalize (dutiesM "spread" "end" n).map MV.str = L at *
      generalize (n + 1) % 2 = q at *
      have s1 : szOk (n + 1) = true := szOk_small (by omega)
      have s2 : szOk (q + (n + 1)) = true := szOk_small (by omega)
      simp [Form, spread_ne, r0, r1, rm, divOk, szOk_small, s1, s2, s3, r2, z3, fAddL]
    · have hm : manyM n sg = n := by simp [manyM, he]
      have rm : (n : Int).fmod 2 = ((n % 2 : Nat) : Int) := nat_fmod n 2
      simp only [hm] at r0 q2
      have e : (dutiesM "spread" sg n).map MV.str = interG (List.replicate n (.str "zone")) (List.replicate n (.str "figure")) := by
        unfold dutiesM zoneD
        rw [if_neg spread_ne, if_neg he, interG_map]
        simp
      rw [e]
      generalize n % 2 = q at *
      have s1 : szOk n = true := szOk_small (by omega)
      have s2 : szOk (q + n) = true := szOk_small (by omega)
      simp [Form, spread_ne, r0, r1, rm, divOk, szOk_small, s1, s2, s3, r2, he, fAddL]
def RowOk (L : Nat) (row : List Nat) : Prop := row.length = L ∧ ∀ b ∈ row, b < 256
structure DrP (N : Nat) where
  tb : Nat → Nat → Nat
  nt : Nat
  rs : List Rw
  c : List Nat
  m : Nat
  h16 : nt ≤ 16
  tl : TabLt tb nt
  ok : rs.all (okN N nt) = true
  h48 : rs.length ≤ 48
  cn : CellsN N c
  m2 : m < 2
theorem figsM_len : ∀ (due : List Str) (hs : List Nat), due.length = hs.length → (figsM due hs).length = due.countP fun d : Str => decide (d = "figure")
  | [], [], _ => rfl
  | d :: due, h :: hs, e => by
    have ih := figsM_len due hs (by simpa using e)
    unfold figsM at ih ⊢
    rw [List.zip_cons_cons]
    by_cases hd : d = "figure"
    · rw [List.filter_cons_of_pos (by simpa using hd), List.map_cons, List.length_cons, ih, List.countP_cons_of_pos (by simpa using hd)]
    · rw [List.filter_cons_of_neg (by simpa using hd), ih, List.countP_cons_of_neg (by simpa using hd)]
  | [], _ :: _, e => by simp at e
  | _ :: _, [], e => by simp at e
theorem figs_n {kd sg : Str} {n : Nat} (hk : kd = "packed" ∨ kd = "spread") (hs : List Nat) (hl : (dutiesM kd sg n).length = hs.length) : (figsM (dutiesM kd sg n) hs).length = n := by
  have h1 := figsM_len (dutiesM kd sg n) (halvesH kd sg n 0 0) (by rw [duties_len, halvesH_len])
  rw [figs_dressed 0 0 hk, digsB_len] at h1
  rw [figsM_len _ _ hl, ← h1]
theorem getD_at {α : Type} {l : List α} {i : Nat} {d : α} (h : i < l.length) : l.getD i d = l[i] := by simp [List.getD_eq_getElem?_getD, h]
theorem figs_ten {due : List Str} {hs : List Nat} (hc : caughtM due hs = none) : ∀ d ∈ figsM due hs, d < 10 := by
  obtain ⟨hl, hr⟩ := caught_none hc
  intro d hd
  unfold figsM at hd
  obtain ⟨q, hq, rfl⟩ := List.mem_map.mp hd
  obtain ⟨hq, h2⟩ := List.mem_filter.mp hq
  obtain ⟨i, hi, e⟩ := List.mem_iff_getElem.mp hq
  have hi' : i < hs.length := by simp [List.length_zip] at hi; omega
  have := hr i hi'
  rw [List.getElem_zip] at e
  rw [getD_at (by omega : i < due.length), getD_at hi'] at this
  rw [← e] at h2 ⊢
  simp only [decide_eq_true_eq] at h2
  simp only at this ⊢
  rw [h2] at this
  unfold rightM at this
  rw [if_neg (by decide), if_pos rfl] at this
  simpa using this
theorem numB_go (fs : List Nat) : ∀ a : Nat, fs.foldl (fun a d => a * 10 + d) a = a * 10 ^ fs.length + numB fs := by
  induction fs with
  | nil => intro a; simp [numB]
  | cons f r ih =>
    intro a
    unfold numB
    rw [List.foldl_cons, List.foldl_cons, ih, ih (0 * 10 + f), List.length_cons, Nat.pow_succ, Nat.add_mul, Nat.zero_mul, Nat.zero_add, Nat.mul_comm (10 ^ r.length) 10, Nat.mul_assoc]
    omega
theorem numB_cons (f : Nat) (r : List Nat) : numB (f :: r) = f * 10 ^ r.length + numB r := by
  have := numB_go r f
  show r.foldl (fun a d => a * 10 + d) (0 * 10 + f) = _
  rw [Nat.zero_mul, Nat.zero_add]; exact this
theorem numB_lt : ∀ fs : List Nat, (∀ d ∈ fs, d < 10) → numB fs < 10 ^ fs.length
  | [], _ => by simp [numB]
  | f :: r, h => by
    have h1 := h f (by simp)
    have h2 := numB_lt r fun d hd => h d (by simp [hd])
    rw [numB_cons, List.length_cons, Nat.pow_succ]
    generalize 10 ^ r.length = T at *
    have : f * T ≤ 9 * T := Nat.mul_le_mul_right T (by omega)
    omega
theorem half_first {fs : List Nat} {n : Nat} (hn : 1 ≤ n) (hl : fs.length = n) (h : ∀ d ∈ fs, d < 10) : 5 * 10 ^ (n - 1) ≤ numB fs ↔ 4 < fs.getD 0 0 := by
  match fs, hl with
  | [], hl => simp at hl; omega
  | f :: r, hl =>
    have h2 := numB_lt r fun d hd => h d (by simp [hd])
    have e : n - 1 = r.length := by simp at hl; omega
    rw [numB_cons, e]
    show _ ↔ 4 < f
    generalize 10 ^ r.length = T at *
    constructor
    · intro h3
      by_cases h4 : 4 < f
      · exact h4
      · have : f * T ≤ 4 * T := Nat.mul_le_mul_right T (by omega)
        omega
    · intro h3
      have : 5 * T ≤ f * T := Nat.mul_le_mul_right T (by omega)
      omega
theorem duties_word {kd sg : Str} {n : Nat} {w : Str} (h : w ∈ dutiesM kd sg n) : tOk w := by
  unfold dutiesM at h
  have key : w = "ahead" ∨ w = "figure" ∨ w = "sign" ∨ w = "zone" := by
    split at h
    · rcases List.mem_append.mp h with h | h
      · rcases List.mem_append.mp h with h | h
        · exact .inl (List.eq_of_mem_replicate h)
        · exact .inr (.inl (List.eq_of_mem_replicate h))
      · split at h
        · exact .inr (.inr (.inl (by simpa using h)))
        · simp at h
    · unfold interG at h
      obtain ⟨l, hl, hw⟩ := List.mem_flatten.mp h
      obtain ⟨i, hi, e⟩ := List.mem_iff_getElem.mp hl
      rw [List.getElem_zipWith] at e
      rw [← e] at hw
      simp only [List.mem_cons, List.not_mem_nil, or_false] at hw
      rcases hw with hw | hw
      · have := zoneD_mem (hw ▸ List.getElem_mem _)
        rcases this with h | h
        · exact .inr (.inr (.inr h))
        · exact .inr (.inr (.inl h))
      · rw [List.getElem_replicate] at hw
        exact .inr (.inl hw)
  rcases key with rfl | rfl | rfl | rfl <;> (unfold tOk; decide +kernel)
theorem scan_word {due : List Str} : ∀ {hs : List Nat} {k : Nat} {r : Nat × Str}, scanM due k hs = some r → r.2 = "length" ∨ r.2 ∈ due
  | [], k, r, h => by cases h
  | x :: hs, k, r, h => by
    unfold scanM at h
    split at h
    · cases h; exact .inl rfl
    · rename_i h1
      split at h
      · exact scan_word h
      · cases h
        refine .inr ?_
        show due.getD k "" ∈ due
        rw [getD_at (by omega)]
        exact List.getElem_mem _
theorem caught_word {kd sg : Str} {n : Nat} {hs : List Nat} {r : Nat × Str} (h : caughtM (dutiesM kd sg n) hs = some r) : tOk r.2 := by
  unfold caughtM at h
  split at h
  · rename_i r' e
    cases h
    rcases scan_word e with h | h
    · rw [h]; unfold tOk; decide +kernel
    · exact duties_word h
  · split at h
    · cases h; show tOk "length"; unfold tOk; decide +kernel
    · cases h
def okJ : Nat → MV → Bool
  | _, .non => true
  | _, .bl _ => true
  | _, .int _ => true
  | _, .str _ => true
  | n + 1, .tup xs => xs.all (okJ n) && decide (xs.length ≤ 1000)
  | _, _ => false
theorem zipM_self : ∀ xs : List MV, zipM xs xs = xs.map fun x => .tup [x, x]
  | [] => rfl
  | x :: xs => by
    show _ :: zipM xs xs = _
    rw [zipM_self xs]; rfl
theorem blsOf_true : ∀ n : Nat, blsOf (List.replicate n (.bl true)) = some (List.replicate n true)
  | 0 => rfl
  | n + 1 => by
    rw [List.replicate_succ]
    simp only [blsOf, blsOf_true n]
    rfl
theorem map_const_true (xs : List MV) : xs.map (fun _ => MV.bl true) = List.replicate xs.length (.bl true) := by
  induction xs with
  | nil => rfl
  | cons x xs ih => rw [List.map_cons, ih]; rfl
theorem just_self : ∀ (n : Nat) (x : MV), okJ n x = true → mRec 4 [] m_ljust (n + 1) [x, x] = .ok (.bl true, [])
  | n, .non, _ => by
    refine mFn_ok ?_
    simp [m_ljust, bIsi, MV.kd, kdOf, Kd.isa, fIsN, MV.isN, fEq, eqM, scalM, sameM]
  | n, .bl b, _ => by
    refine mFn_ok ?_
    simp [m_ljust, bIsi, MV.kd, kdOf, Kd.isa, fIsN, MV.isN, fEq, fNe, eqM, scalM, sameM]
  | n, .int i, _ => by
    refine mFn_ok ?_
    simp [m_ljust, bIsi, MV.kd, kdOf, Kd.isa, fIsN, MV.isN, fEq, fNe, eqM, scalM, sameM]
  | n, .str s, _ => by
    refine mFn_ok ?_
    simp [m_ljust, bIsi, MV.kd, kdOf, Kd.isa, fIsN, MV.isN, fEq, fNe, eqM, scalM, sameM]
  | 0, .tup _, h => by simp [okJ] at h
  | n + 1, .tup xs, h => by
    refine mFn_ok ?_
    simp only [okJ, Bool.and_eq_true, decide_eq_true_eq] at h
    have key : mLcO (mZip (mCons (mVar 0) (mCons (mVar 1) (mNil)))) (.tp [2, 3]) (mYes) (mFz (mCall0 (mRec 4 [] m_ljust (n + 1)) (mCons (mVar 2) (mCons (mVar 3) (mNil))))) [2, 3] [some (.tup xs), some (.tup xs), none, none] =   .ok (.own (List.replicate xs.length (.bl true)), [some (.tup xs), some (.tup xs), none, none]) := by
      rw [← show (xs.map fun x => MV.tup [x, x]).map (fun _ => MV.bl true) = List.replicate xs.length (.bl true) by rw [map_const_true, List.length_map]]
      refine mLcO_map (fun _ => .bl true) (by simp [zipM_self]) (by simp [perAt]) ?_ (by rw [sizeLine_eq, List.length_map]; omega)
      intro z hz
      obtain ⟨x, hx, rfl⟩ := List.mem_map.mp hz
      have ih := just_self n x (List.all_eq_true.mp h.1 x hx)
      have hh := List.all_eq_true.mp h.1 x hx
      refine ⟨[some (.tup xs), some (.tup xs), some x, some x], by simp [setT, setAll, wipeM], ?_, by simp [wipeM], by simp⟩
      cases x <;> first | (exfalso; cases n <;> simp [okJ] at hh; done) | simp [ih]
    simp [m_ljust, bIsi, MV.kd, kdOf, Kd.isa, key, bAll, blsOf_true]
  | n, .lst _, h => by cases n <;> simp [okJ] at h
  | n, .own _, h => by cases n <;> simp [okJ] at h
  | n, .raw _, h => by cases n <;> simp [okJ] at h
  | n, .scr _, h => by cases n <;> simp [okJ] at h
  | n, .obj _ _, h => by cases n <;> simp [okJ] at h
  | n, .fnc _, h => by cases n <;> simp [okJ] at h
  | n, .dct _ _, h => by cases n <;> simp [okJ] at h
  | n, .dow _ _, h => by cases n <;> simp [okJ] at h
  | n, .dot _ _, h => by cases n <;> simp [okJ] at h
theorem signAt_packed (n : Nat) : signAt (dutiesM "packed" "end" n) = manyM n "end" % 2 + n := by
  refine sign_uniq ?_ fun i hi => ?_
  · unfold dutiesM
    rw [if_pos rfl, if_pos rfl, List.getElem?_append_right (by simp)]
    simp
  · unfold dutiesM
    rw [if_pos rfl, if_pos rfl, List.getElem?_append_left (by simp; omega)]
    intro z
    have := List.mem_of_getElem? z
    rcases List.mem_append.mp this with m | m
    · have := List.eq_of_mem_replicate m; exact absurd this (by decide)
    · have := List.eq_of_mem_replicate m; exact absurd this (by decide)
theorem signAt_spread {n : Nat} (hn : 1 ≤ n) : signAt (dutiesM "spread" "end" n) = 2 * (n - 1) := by
  have hl : (zoneD n "end").length = (List.replicate n ("figure" : Str)).length := by rw [zoneD_len, List.length_replicate]
  refine sign_uniq ?_ fun i hi => ?_
  · unfold dutiesM
    rw [if_neg spread_ne, (interG_get _ _ _ hl).1]
    unfold zoneD
    rw [if_pos rfl, List.getElem?_set_self (by simp; omega)]
  · unfold dutiesM
    rw [if_neg spread_ne]
    rcases Nat.mod_two_eq_zero_or_one i with e | e
    · have e2 : i = 2 * (i / 2) := by omega
      rw [e2, (interG_get _ _ _ hl).1]
      unfold zoneD
      rw [if_pos rfl, List.getElem?_set_ne (by omega)]
      intro z
      have := List.eq_of_mem_replicate (List.mem_of_getElem? z)
      exact absurd this (by decide)
    · have e2 : i = 2 * (i / 2) + 1 := by omega
      rw [e2, (interG_get _ _ _ hl).2]
      intro z
      have := List.eq_of_mem_replicate (List.mem_of_getElem? z)
      exact absurd this (by decide)
def evenL {α : Type} : List α → List α
  | a :: _ :: r => a :: evenL r
  | _ => []
theorem inter_split : ∀ (n : Nat) (hs : List Nat), hs.length = 2 * n → hs = inter (evenL hs) (oddL hs) ∧ (evenL hs).length = n ∧ (oddL hs).length = n
  | 0, [], _ => ⟨rfl, rfl, rfl⟩
  | 0, _ :: _, h => by simp at h
  | n + 1, [], h => by simp at h
  | n + 1, [_], h => by simp at h; omega
  | n + 1, a :: b :: r, h => by
    obtain ⟨i1, i2, i3⟩ := inter_split n r (by simp at h; omega)
    refine ⟨?_, by simp [evenL, i2], by simp [oddL, i3]⟩
    show a :: b :: r = a :: b :: inter (evenL r) (oddL r)
    rw [← i1]
theorem odd_map {α β : Type} (f : α → β) : ∀ l : List α, oddL (l.map f) = (oddL l).map f
  | [] => rfl
  | [_] => rfl
  | _ :: b :: r => by
    show f b :: oddL (r.map f) = f b :: (oddL r).map f
    rw [odd_map f r]
theorem read_fold (x0 x1 x2 x3 x4 : Option MV) : ∀ (l : List Nat) (v : Nat) (z : Option MV), ∃ z', mLoop (gSet 6) b_lread_row_1 (encC l) [x0, x1, x2, x3, x4, some (.int v), z] = .ok (.nx, [x0, x1, x2, x3, x4, some (.int (l.foldl (fun a d => a * 10 + d) v : Nat)), z'])
  | [], v, z => ⟨z, rfl⟩
  | d :: l, v, z => by
    obtain ⟨z', e⟩ := read_fold x0 x1 x2 x3 x4 l (v * 10 + d) (some (.int d))
    refine ⟨z', ?_⟩
    have mz : mulOk 10 (v : Int) = true := mulOk_l (by decide) (by decide)
    have st : mLoop (gSet 6) b_lread_row_1 (encC (d :: l)) [x0, x1, x2, x3, x4, some (.int v), z] = (b_lread_row_1 [x0, x1, x2, x3, x4, some (.int v), some (.int d)]).bind fun f' ρ2 => match f' with
        | .nx => mLoop (gSet 6) b_lread_row_1 (encC l) ρ2
        | .ct => mLoop (gSet 6) b_lread_row_1 (encC l) ρ2
        | .br => .ok (.nx, ρ2)
        | .rt v => .ok (.rt v, ρ2) := rfl
    have bd : b_lread_row_1 [x0, x1, x2, x3, x4, some (.int v), some (.int d)] = .ok (.nx, [x0, x1, x2, x3, x4, some (.int (v * 10 + d : Nat)), some (.int d)]) := by
      have e : ((v * 10 + d : Nat) : Int) = 10 * (v : Int) + d := by omega
      rw [e]
      simp [b_lread_row_1, mz]
    rw [st, bd, List.foldl_cons]
    exact e
def readEnd : MS := (mSeq (mAsg (mC (.int 0)) (gSet 5)) (mSeq (mFor (mItV (mVar 2)) (gSet 6) (b_lread_row_1)) (mSeq (mIfS (mTest (mOp fIn (mVar 4) (mTup (mCons (mC (.int 11)) (mCons (mC (.int 13)) (mNil)))))) (mRet (mOp fSub (mC (.int 0)) (mVar 5))) (mPass)) (mSeq (mIfS (mAndT (mTest (mOp fEq (mOp fIx (mVar 0) (mC (.int 2))) (mC (.str "tens")))) (mTest (mOp fGe (mVar 5) (mOp fMul (mC (.int 5)) (mFz (mCall f_lpower (mCons (mC (.int 10)) (mCons (mOp fSub (mOp fIx (mVar 0) (mC (.int 1))) (mC (.int 1))) (mNil))))))))) (mRet (mOp fSub (mVar 5) (mFz (mCall f_lpower (mCons (mC (.int 10)) (mCons (mOp fIx (mVar 0) (mC (.int 1))) (mNil))))))) (mPass)) (mRet (mVar 5))))))
theorem readEnd_ok {kd sg : Str} {n : Nat} {p : MV} (hs : sg = "none" ∨ sg = "end" ∨ sg = "tens") (hn : 1 ≤ n ∧ n ≤ 12) (G fs : List Nat) (hG : numB G = numB fs) (hfl : fs.length = n) (hft : ∀ d ∈ fs, d < 10) (half : Nat) (hh : half = 12 ∨ sg = "end") (x1 x3 : Option MV) :
    ∃ ρ, readEnd [some (Form kd n sg p), x1, some (.lst (encC G)), x3, some (.int half), none, none] = .ok (.rt (.int (if half = 11 ∨ half = 13 then -(numB fs : Int) else if sg = "tens" ∧ 4 < fs.getD 0 0 then (numB fs : Int) - 10 ^ n else numB fs)), ρ) := by
  obtain ⟨z', e⟩ := read_fold (some (Form kd n sg p)) x1 (some (.lst (encC G))) x3 (some (.int half)) G 0 none
  have eN : G.foldl (fun a d => a * 10 + d) 0 = numB fs := hG
  rw [eN] at e
  have x3' := fIn_sgn (half : Nat)
  have hf := half_first hn.1 hfl hft
  have t1 := @lpower_eq 10 (n : Int) (by decide) (by omega) (by omega)
  have t2 := @lpower_eq 10 ((n : Int) - 1) (by decide) (by omega) (by omega)
  rw [Int.toNat_natCast] at t1
  rw [show ((n : Int) - 1).toNat = n - 1 by omega] at t2
  have m5 : mulOk 5 ((10 : Int) ^ (n - 1)) = true := mulOk_l (by decide) (by decide)
  have hf' : (5 * (10 : Int) ^ (n - 1) ≤ (numB fs : Int)) ↔ 4 < fs.getD 0 0 := by
    rw [← hf]
    have : (5 * (10 : Int) ^ (n - 1)) = ((5 * 10 ^ (n - 1) : Nat) : Int) := by simp
    rw [this]
    omega
  generalize hN : numB fs = N at *
  generalize fs.getD 0 0 = q at *
  generalize (10 : Int) ^ (n - 1) = T at *
  generalize (10 : Int) ^ n = T2 at *
  generalize encC G = GG at *
  unfold Form at e ⊢
  by_cases h1 : half = 11 ∨ half = 13
  · have h1' : ((half : Int) = 11 ∨ (half : Int) = 13) := by omega
    simp only [h1', decide_true] at x3'
    rw [if_pos h1]
    simp at e
    simp [readEnd, e, x3', szOk_small]
  · have h1' : ¬ ((half : Int) = 11 ∨ (half : Int) = 13) := by omega
    simp only [h1', decide_false] at x3'
    rw [if_neg h1]
    simp at e
    by_cases hsg : sg = "tens"
    · subst hsg
      by_cases h4 : 4 < q
      · have h5 := hf'.mpr h4
        simp [readEnd, e, x3', szOk_small, t1, t2, m5, h5, h4]
      · have h5 : ¬ (5 * T ≤ (N : Int)) := fun h => h4 (hf'.mp h)
        simp [readEnd, e, x3', szOk_small, t1, t2, m5, h5, h4]
    · simp [readEnd, e, x3', szOk_small, hsg]
theorem lread_row_eq {kd sg : Str} {n : Nat} {p : MV} (hk : kd = "packed" ∨ kd = "spread") (hs : sg = "none" ∨ sg = "end" ∨ sg = "tens") (hn : 1 ≤ n ∧ n ≤ 12) {row : List Nat} (hl : row.length = roomM kd sg n) (hb : ∀ b ∈ row, b < 256) (hc : caughtM (dutiesM kd sg n) (halvesOf row) = none) :
    f_lread_row [Form kd n sg p, .tup (encC row)] = .ok (.int (valueM sg n (dutiesM kd sg n) (halvesOf row)), []) := by
  have hr := @room_le2 kd sg n hn.1
  have dl := duties_len kd sg n
  have hhl := halvesOf_len row
  obtain ⟨hlen, hri⟩ := caught_none hc
  have hfn := figs_n hk (halvesOf row) hlen
  have hft := figs_ten hc
  obtain ⟨⟨z', h⟩, _⟩ := loop_junk (σ := List Nat) (β := Option MV) (g := gSet 3) (b := b_lread_row_0) (fun s z => [some (Form kd n sg p), some (.tup (encC row)), some (.lst (encC s)), z, none, none, none]) (fun d : Nat => MV.int d) (fun s b => s ++ [b / 16, b % 16]) (fun k s => s.length = 2 * k) row [] none rfl (by
    intro i s z x hx hi hlt
    refine ⟨by simp [hi]; omega, _, rfl, some (.int x), ?_⟩
    have q1 : (x : Int).fdiv 16 = ((x / 16 : Nat) : Int) := nat_fdiv _ 16
    have q2 : (x : Int).fmod 16 = ((x % 16 : Nat) : Int) := nat_fmod _ 16
    have ea : encC (s ++ [x / 16, x % 16]) = encC s ++ [.int (x / 16 : Nat), .int (x % 16 : Nat)] := by unfold encC; rw [List.map_append]; rfl
    have sz : szOk ((encC s).length + 2) = true := szOk_small (by rw [encC_len]; omega)
    rw [ea]
    generalize x / 16 = a1 at *
    generalize x % 16 = a2 at *
    generalize encC s = S at *
    generalize encC row = R at *
    simp [b_lread_row_0, divOk, q1, q2, szOk_small, sz, fAddL])
  have e1 : ∀ (l : List Nat) (acc : List Nat), l.foldl (fun s b => s ++ [b / 16, b % 16]) acc = acc ++ halvesOf l := by
    intro l
    induction l with
    | nil => intro acc; simp [halvesOf]
    | cons x l ih => intro acc; rw [List.foldl_cons, ih]; simp [halvesOf]
  rw [e1, List.nil_append] at h
  rw [show row.map (fun d : Nat => MV.int d) = encC row from rfl, show encC ([] : List Nat) = [] from rfl] at h
  have fin : ∀ v, (∃ ρ, m_lread_row [some (Form kd n sg p), some (.tup (encC row)), none, none, none, none, none] = .ok (.rt v, ρ)) → f_lread_row [Form kd n sg p, .tup (encC row)] = .ok (v, []) := fun v h => mFn_ok h
  refine fin _ ?_
  show ∃ ρ, (mSeq (mAsg (mLst (mNil)) (gSet 2)) (mSeq (mFor (mItV (mVar 1)) (gSet 3) (b_lread_row_0)) (mSeq (mAsg (mC (.int 12)) (gSet 4)) (mSeq (mIfS (mTest (mOp fEq (mOp fIx (mVar 0) (mC (.int 0))) (mC (.str "spread")))) (mSeq (mIfS (mTest (mOp fEq (mOp fIx (mVar 0) (mC (.int 2))) (mC (.str "end")))) (mAsg (mOp fIx (mVar 2) (mUn fNeg (mC (.int 2)))) (gSet 4)) (mPass)) (mAsg (mOdd (mVar 2)) (gSet 2))) (mIfS (mTest (mOp fEq (mOp fIx (mVar 0) (mC (.int 2))) (mC (.str "end")))) (mSeq (mAsg (mOp fIx (mVar 2) (mUn fNeg (mC (.int 1)))) (gSet 4)) (mAsg (mSl (mVar 2) (mNo) (mPart (mUn fNeg (mC (.int 1))))) (gSet 2))) (mPass))) readEnd)))) [some (Form kd n sg p), some (.tup (encC row)), none, none, none, none, none] = _
  refine seq_nxE (ρ1 := [some (Form kd n sg p), some (.tup (encC row)), some (.lst []), none, none, none, none]) (by simp [szOk_small]) ?_
  refine seq_nxE (ρ1 := [some (Form kd n sg p), some (.tup (encC row)), some (.lst (encC (halvesOf row))), z', none, none, none]) (by
    generalize encC row = R at *
    generalize Form kd n sg p = fm at *
    simp [h]) ?_
  refine seq_nxE (ρ1 := [some (Form kd n sg p), some (.tup (encC row)), some (.lst (encC (halvesOf row))), z', some (.int 12), none, none]) (by simp) ?_
  have hlen2 : (halvesOf row).length = 2 * roomM kd sg n := by omega
  clear h e1 fin
  unfold valueM
  rcases hk with rfl | rfl
  · -- packed
    have hm2 : manyM n sg % 2 < 2 := Nat.mod_lt _ (by decide)
    have dsplit : dutiesM "packed" sg n = List.replicate (manyM n sg % 2) ("ahead" : Str) ++ (List.replicate n ("figure" : Str) ++ (if sg = "end" then [("sign" : Str)] else [])) := by
      unfold dutiesM
      rw [if_pos rfl, List.append_assoc]
    have dlen : (dutiesM "packed" sg n).length = manyM n sg % 2 + (n + if sg = "end" then 1 else 0) := by
      rw [dsplit]
      by_cases he : sg = "end" <;> simp [he]
    obtain ⟨A, F, S, hh, la, lf, ls⟩ : ∃ A F S : List Nat, halvesOf row = A ++ (F ++ S) ∧ A.length = manyM n sg % 2 ∧ F.length = n ∧ S.length = if sg = "end" then 1 else 0 := by
      refine ⟨(halvesOf row).take (manyM n sg % 2), ((halvesOf row).drop (manyM n sg % 2)).take n, ((halvesOf row).drop (manyM n sg % 2)).drop n, by rw [List.take_append_drop, List.take_append_drop], ?_, ?_, ?_⟩
      · rw [List.length_take]; omega
      · rw [List.length_take, List.length_drop]; omega
      · rw [List.length_drop, List.length_drop]; omega
    have hF : figsM (dutiesM "packed" sg n) (halvesOf row) = F := by
      rw [dsplit, hh, figs_app (by simp [la]), figs_app (by simp [lf]), figs_rep_no zs_ne.2.2]
      have f1 := figs_rep F
      rw [lf] at f1
      rw [f1]
      by_cases he : sg = "end"
      · rw [if_pos he]
        rw [if_pos he] at ls
        have : figsM (List.replicate 1 ("sign" : Str)) S = [] := figs_rep_no zs_ne.2.1 1 S
        rw [show [("sign" : Str)] = List.replicate 1 ("sign" : Str) from rfl, this]; simp
      · rw [if_neg he]
        simp [figsM]
    have nA : numB (A ++ F) = numB F := by
      match A, la with
      | [], _ => rfl
      | [x], la =>
        have r0 := hri 0 (by omega)
        rw [dsplit, ← la, hh] at r0
        have r0 : rightM "ahead" x = true := r0
        unfold rightM at r0
        rw [if_pos rfl] at r0
        have : x = 0 := by simpa using r0
        subst this
        rw [List.singleton_append, numB_cons]
        simp
      | _ :: _ :: _, la => simp at la; omega
    rw [hF] at hfn hft ⊢
    by_cases he : sg = "end"
    · subst he
      rw [if_pos rfl] at ls
      obtain ⟨s, rfl⟩ : ∃ s, S = [s] := by
        match S, ls with
        | [s], _ => exact ⟨s, rfl⟩
      have sat : (halvesOf row).getD (signAt (dutiesM "packed" "end" n)) 0 = s := by
        rw [signAt_packed, hh, List.getD_eq_getElem?_getD, List.getElem?_append_right (by omega), la, List.getElem?_append_right (by omega), lf]
        simp
      rw [sat]
      obtain ⟨ρ, e⟩ := @readEnd_ok "packed" "end" n p hs hn (A ++ F) F nA lf hft s (.inr rfl) (some (.tup (encC row))) z'
      have eH : encC (halvesOf row) = encC (A ++ F) ++ [.int s] := by
        rw [hh, ← List.append_assoc]
        unfold encC
        rw [List.map_append]; rfl
      have at1 : atI (encC (halvesOf row)) (-1) = some (.int s) := by
        rw [eH]
        have : ∀ (L : List MV) (x : MV), atI (L ++ [x]) (-1) = some x := fun L x => by
          unfold atI ixN
          rw [if_neg (by decide), if_pos (by simp; omega)]
          rw [show (-1 + ((L ++ [x]).length : Int)).toNat = L.length by simp; omega]
          simp
        exact this _ _
      have cut1 : cutM (encC (halvesOf row)) none (some (-1)) = encC (A ++ F) := by
        rw [eH]
        have : ∀ L : List MV, ∀ x : MV, cutM (L ++ [x]) none (some (-1)) = L := fun L x => by
          simp [cutM, HT.sIx]
          rw [show (-1 + ((L.length : Int) + 1)).toNat = L.length by omega]
          simp
        exact this _ _
      have : ∃ ρ, readEnd [some (Form "packed" n "end" p), some (.tup (encC row)), some (.lst (encC (A ++ F))), z', some (.int s), none, none] = .ok (.rt (.int (if ("end" : Str) = "end" ∧ (s = 11 ∨ s = 13) then -(numB F : Int) else if ("end" : Str) = "tens" ∧ 4 < F.getD 0 0 then (numB F : Int) - 10 ^ n else numB F)), ρ) := by
        refine ⟨ρ, e.trans ?_⟩
        simp
      refine seq_nxE ?_ this
      generalize encC (halvesOf row) = H at *
      generalize encC (A ++ F) = AF at *
      generalize encC row = R at *
      simp [Form, packed_ne, at1, cut1]
    · rw [if_neg he] at ls
      have : S = [] := List.length_eq_zero_iff.mp ls
      subst this
      rw [List.append_nil] at hh
      obtain ⟨ρ, e⟩ := @readEnd_ok "packed" sg n p hs hn (A ++ F) F nA lf hft 12 (.inl rfl) (some (.tup (encC row))) z'
      rw [hh]
      have : ∃ ρ, readEnd [some (Form "packed" n sg p), some (.tup (encC row)), some (.lst (encC (A ++ F))), z', some (.int 12), none, none] = .ok (.rt (.int (if sg = "end" ∧ ((A ++ F).getD (signAt (dutiesM "packed" sg n)) 0 = 11 ∨ (A ++ F).getD (signAt (dutiesM "packed" sg n)) 0 = 13) then -(numB F : Int) else if sg = "tens" ∧ 4 < F.getD 0 0 then (numB F : Int) - 10 ^ n else numB F)), ρ) := by
        refine ⟨ρ, e.trans ?_⟩
        simp [he]
      refine seq_nxE ?_ this
      generalize encC (A ++ F) = AF at *
      generalize encC row = R at *
      simp [Form, packed_ne, he]
  · -- spread
    have rm : roomM "spread" sg n = n := by
      unfold roomM
      rw [if_neg spread_ne]
    obtain ⟨hsp, lz, lf⟩ := inter_split n (halvesOf row) (by omega)
    have hF : figsM (dutiesM "spread" sg n) (halvesOf row) = oddL (halvesOf row) := by
      have := figs_inter (zoneD n sg) (evenL (halvesOf row)) (oddL (halvesOf row)) (fun z hz => by
        rcases zoneD_mem hz with rfl | rfl
        · exact zs_ne.1
        · exact zs_ne.2.1) (by rw [zoneD_len, lf]) (by rw [lz, lf])
      rw [lf, ← hsp] at this
      unfold dutiesM
      rw [if_neg spread_ne]
      exact this
    rw [hF] at hfn hft ⊢
    have eO : oddL (encC (halvesOf row)) = encC (oddL (halvesOf row)) := odd_map _ _
    by_cases he : sg = "end"
    · subst he
      have at2 : atI (encC (halvesOf row)) (-2) = some (.int ((halvesOf row).getD (signAt (dutiesM "spread" "end" n)) 0 : Nat)) := by
        rw [signAt_spread hn.1]
        have ix : ixN (encC (halvesOf row)).length (-2) = some (2 * (n - 1)) := by rw [encC_len, hlen2, rm]; exact ixN_neg2 hn.1
        have := encC_at (c := halvesOf row) (i := 2 * (n - 1)) (by omega)
        unfold atI at this ⊢
        rw [ix]
        rw [ixN_at (k := (encC (halvesOf row)).length) (i := ((2 * (n - 1) : Nat) : Int)) ⟨by omega, by rw [encC_len]; omega⟩] at this
        rw [Int.toNat_natCast] at this
        exact this
      generalize hsv : (halvesOf row).getD (signAt (dutiesM "spread" "end" n)) 0 = s at *
      obtain ⟨ρ, e⟩ := @readEnd_ok "spread" "end" n p hs hn (oddL (halvesOf row)) (oddL (halvesOf row)) rfl lf hft s (.inr rfl) (some (.tup (encC row))) z'
      have : ∃ ρ, readEnd [some (Form "spread" n "end" p), some (.tup (encC row)), some (.lst (encC (oddL (halvesOf row)))), z', some (.int s), none, none] = .ok (.rt (.int (if ("end" : Str) = "end" ∧ (s = 11 ∨ s = 13) then -(numB (oddL (halvesOf row)) : Int) else if ("end" : Str) = "tens" ∧ 4 < (oddL (halvesOf row)).getD 0 0 then (numB (oddL (halvesOf row)) : Int) - 10 ^ n else numB (oddL (halvesOf row)))), ρ) := by
        refine ⟨ρ, e.trans ?_⟩
        simp
      refine seq_nxE ?_ this
      rw [← eO]
      generalize encC (halvesOf row) = H at *
      generalize encC row = R at *
      simp [Form, at2]
    · obtain ⟨ρ, e⟩ := @readEnd_ok "spread" sg n p hs hn (oddL (halvesOf row)) (oddL (halvesOf row)) rfl lf hft 12 (.inl rfl) (some (.tup (encC row))) z'
      have : ∃ ρ, readEnd [some (Form "spread" n sg p), some (.tup (encC row)), some (.lst (encC (oddL (halvesOf row)))), z', some (.int 12), none, none] = .ok (.rt (.int (if sg = "end" ∧ ((halvesOf row).getD (signAt (dutiesM "spread" sg n)) 0 = 11 ∨ (halvesOf row).getD (signAt (dutiesM "spread" sg n)) 0 = 13) then -(numB (oddL (halvesOf row)) : Int) else if sg = "tens" ∧ 4 < (oddL (halvesOf row)).getD 0 0 then (numB (oddL (halvesOf row)) : Int) - 10 ^ n else numB (oddL (halvesOf row)))), ρ) := by
        refine ⟨ρ, e.trans ?_⟩
        simp [he]
      refine seq_nxE ?_ this
      rw [← eO]
      generalize encC (halvesOf row) = H at *
      generalize encC row = R at *
      simp [Form, he]
theorem lread2_ok {F : List MV} {R : List MV} {v : Int} (h : f_pnumber_of [.tup F, .tup R] = .ok (.int v, [])) : f_lread2 [.tup F, .tup R] = .ok (.tup [.str "told", .int v], []) := by
  refine mFn_ok ?_
  simp [m_lread2, b_lread2_0, h, szOk_small]
theorem lread2_no {F : List MV} {R : List MV} {a : Int} {w : Str} (h : f_pnumber_of [.tup F, .tup R] = .exc ⟨"Wrong", [("why", .str w), ("place", .int a)]⟩ []) : f_lread2 [.tup F, .tup R] = .ok (.tup [.str "wrong", .tup [.int a, .str w]], []) := by
  refine mFn_ok ?_
  have l1 : List.lookup (Str.ofString "Wrong") [(Str.ofString "Wrong", true)] = some true := by decide +kernel
  have l2 : List.lookup (Str.ofString "place") [(Str.ofString "why", MV.str w), (Str.ofString "place", MV.int a)] = some (.int a) := by simp [List.lookup, show (Str.ofString "place" == Str.ofString "why") = false by decide +kernel]
  have l3 : List.lookup (Str.ofString "why") [(Str.ofString "why", MV.str w), (Str.ofString "place", MV.int a)] = some (.str w) := by simp [List.lookup]
  simp [m_lread2, b_lread2_0, h, szOk_small, l1, l2, l3, flatM]
theorem lright9_ok {kd sg : Str} {n : Nat} {p : MV} (hk : kd = "packed" ∨ kd = "spread") (hs : sg = "none" ∨ sg = "end" ∨ sg = "tens") (hn : 1 ≤ n ∧ n ≤ 12) {row : List Nat} (ho : RowOk (roomM kd sg n) row) (cell salt : Int) :
    f_lright9 [Form kd n sg p, .tup [.tup ((List.range 9).map chkTab), .tup ((chkP (lookN kd sg n)).map enR)], .tup (encC row), .int cell, .int salt] = .ok (.bl true, []) := by
  have hr := @room_le2 kd sg n hn.1
  have dl := duties_len kd sg n
  have hhl := halvesOf_len row
  have hl := ho.1
  have c1 := @pcaught_eq kd sg n p hk ⟨hn.1, by omega⟩ row (by omega)
  have c2 := @lcaught_eq kd sg n p hk hn row ho.1 ho.2
  have af := @chk_after kd sg n hn row ho.1 ho.2 cell salt
  rw [show row.map (fun d : Nat => MV.int d) = encC row from rfl] at c1
  have nep : ∀ w : Nat, fEq (.tup [.tup [.int w], .int 0]) (.tup [.tup [.int w], .int 0]) = some (.bl true) := fun w => fEq_tt rfl
  refine mFn_ok ?_
  cases hc : caughtM (dutiesM kd sg n) (halvesOf row) with
  | none =>
    obtain ⟨hlen, _⟩ := caught_none hc
    have nb := @pnumber_of_eq kd sg n p hk hs ⟨hn.1, by omega⟩ row (by omega) hc (by rw [figs_n hk _ hlen]; omega)
    have lr := @lread_row_eq kd sg n p hk hs hn row ho.1 ho.2 hc
    rw [show row.map (fun d : Nat => MV.int d) = encC row from rfl] at nb
    rw [hc] at c1 c2 af
    have j1 : f_ljust [.non, .non] = .ok (.bl true, []) := just_self 7 .non rfl
    have j2 : ∀ v : Int, f_ljust [.tup [.str "told", .int v], .tup [.str "told", .int v]] = .ok (.bl true, []) := fun v => just_self 7 _ rfl
    have n0 := nep 0
    simp only [encO] at c1 c2
    simp [chkO] at af n0
    generalize valueM sg n (dutiesM kd sg n) (halvesOf row) = v at *
    generalize (List.range 9).map chkTab = T at *
    generalize (chkP (lookN kd sg n)).map enR = PR at *
    generalize encC row = R at *
    generalize hfm : Form kd n sg p = fm at *
    obtain ⟨fx, rfl⟩ : ∃ fx, fm = .tup fx := ⟨_, hfm.symm⟩
    have rd := lread2_ok nb
    simp [m_lright9, c1, c2, j1, rd, lr, j2, af, n0, szOk_small]
  | some r =>
    have nb := @pnumber_of_no kd sg n p hk ⟨hn.1, by omega⟩ row (by omega) r hc
    rw [show row.map (fun d : Nat => MV.int d) = encC row from rfl] at nb
    rw [hc] at c1 c2 af
    have j1 : f_ljust [.tup [.int r.1, .str r.2], .tup [.int r.1, .str r.2]] = .ok (.bl true, []) := just_self 7 _ rfl
    have n0 := nep (r.1 + 1)
    have ne : fNe (.tup [.str "wrong", .tup [.int r.1, .str r.2]]) (.tup [.str "wrong", .tup [.int r.1, .str r.2]]) = some (.bl false) := fNe_tt (by
      have := @caught_word kd sg n (halvesOf row) r hc
      unfold tOk at this
      simp [okD, this]
      decide +kernel)
    simp only [encO, encR] at c1 c2
    simp [chkO] at af n0
    have co : (1 : Int) + r.1 = (r.1 : Int) + 1 := by omega
    generalize (List.range 9).map chkTab = T at *
    generalize (chkP (lookN kd sg n)).map enR = PR at *
    generalize encC row = R at *
    generalize hfm : Form kd n sg p = fm at *
    obtain ⟨fx, rfl⟩ : ∃ fx, fm = .tup fx := ⟨_, hfm.symm⟩
    have rd := lread2_no nb
    simp [m_lright9, c1, c2, j1, rd, ne, af, n0, szOk_small, co]
theorem law_true : ∀ ns : List Int, ns.length ≤ 63 → ∃ bs, f_law74 [.scr ns] = .ok (.bl true, bs) := by
  intro ns hns
  refine ⟨[], mFn_ok ?_⟩
  obtain ⟨c0, hc0⟩ := lcell_ok ns 0
  obtain ⟨c1, hc1⟩ := lcell_ok ns 1
  obtain ⟨c2, hc2⟩ := lcell_ok ns 2
  obtain ⟨ds, hd, hds⟩ := ldraws_ok c0 435 [2, 12, 3, 16, 12, 16] (by decide) (by decide)
  simp only [draws_cons, draws_nil] at hd
  obtain ⟨kk, _, rfl, q0, m, _, rfl, q1, ss, _, rfl, q2, name, _, rfl, q3, dress, _, rfl, q4, half, _, rfl, q5, rfl⟩ := hd
  obtain ⟨ds2, hd2, hds2⟩ := ldraws_ok c1 437 [100000000000000, 4] (by decide) (by decide)
  simp only [draws_cons, draws_nil] at hd2
  obtain ⟨far, _, rfl, u0, quarter, _, rfl, u1, rfl⟩ := hd2
  obtain ⟨i, rfl⟩ : ∃ i : Nat, m = i := ⟨m.toNat, by omega⟩
  obtain ⟨hf, rfl⟩ : ∃ i : Nat, half = i := ⟨half.toNat, by omega⟩
  obtain ⟨pt, hfo⟩ := lform_kd2 (a := kk) (k := i) (n := 1 + i) (s := ss) q0 (by omega) q2 rfl
  have hkd : kdM kk = "packed" ∨ kdM kk = "spread" := kdM_or kk
  have hsg : sgM ss = "none" ∨ sgM ss = "end" ∨ sgM ss = "tens" := sgM_or ss
  generalize kdM kk = kd at *
  generalize sgM ss = sg at *
  have hn : 1 ≤ 1 + i ∧ 1 + i ≤ 12 := by omega
  have fp : fPow (.int 10) (.int 14) = some (.int 100000000000000) := rfl
  have pr := @pcheck_rows_eq kd sg (1 + i) (.int pt) hkd hn
  obtain ⟨x, hx, hxe⟩ := @lnumber_ok kd sg (1 + i) (.int pt) ⟨hn.1, by omega⟩ hsg name far q3.1
  obtain ⟨h, fh, hye⟩ := @ldressed_ok kd sg (1 + i) (.int pt) hkd ⟨hn.1, by omega⟩ x dress
  rw [show (rowH kd sg (1 + i) x h).map (fun d : Nat => MV.int d) = encC (rowH kd sg (1 + i) x h) from rfl] at hye
  have r0 : RowOk (roomM kd sg (1 + i)) (rowH kd sg (1 + i) x h) := ⟨rowH_len kd sg (1 + i) x h, rowH_lt kd sg (1 + i) x h fh.2.1⟩
  have hp1 := room_pos kd sg hn.1
  have hr := @room_le2 kd sg (1 + i) hn.1
  have rt : ∀ {row : List Nat}, RowOk (roomM kd sg (1 + i)) row → ∀ cell salt, _ := fun {row} ho cell salt => @lright9_ok kd sg (1 + i) (.int pt) hkd hsg hn row ho cell salt
  have rt0 := rt r0 c2 439
  generalize hrow : rowH kd sg (1 + i) x h = row at *
  generalize hfm : Form kd (1 + i) sg (.int pt) = fm at *
  obtain ⟨fx, rfl⟩ : ∃ fx, fm = .tup fx := ⟨_, hfm.symm⟩
  generalize (List.range 9).map chkTab = T at *
  generalize (chkP (lookN kd sg (1 + i))).map enR = PR at *
  generalize hpx : [MV.tup T, .tup PR] = px at *
  generalize roomM kd sg (1 + i) = L at *
  have rl : row.length = L := r0.1
  have el : (encC row).length = L := by rw [encC_len, rl]
  have sL : szOk L = true := szOk_small (by omega)
  have m2 : mulOk 2 (L : Int) = true := mulOk_l (by decide) (by decide)
  have tn : (2 * (L : Int)).toNat = 2 * L := by omega
  have ir : inR (2 * (L : Int)) = true := inR_of (by omega) (by omega)
  clear hpx hfm hrow
  obtain ⟨ρ', e, a4, a13, a14, a15, a16, rfl⟩ := loop_nxr (g := gSet 4) (b := b_law74_0) (lo := 0) (c := 1) (n := 2 * L) (ρ := [some (.scr ns), some (.tup fx), some (.tup (encC row)), some (.tup px), none, some (.int kk), some (.int i), some (.int ss), some (.int name), some (.int dress), some (.int hf), some (.int far), some (.int quarter), none, none, none, none])
    (fun _ ρ => ∃ a4 a13 a14 a15 a16, ρ = [some (.scr ns), some (.tup fx), some (.tup (encC row)), some (.tup px), a4, some (.int kk), some (.int i), some (.int ss), some (.int name), some (.int dress), some (.int hf), some (.int far), some (.int quarter), a13, a14, a15, a16]) ⟨_, _, _, _, _, rfl⟩ (by
      rintro k ρ hk ⟨a4, a13, a14, a15, a16, rfl⟩
      obtain ⟨c3, hc3⟩ := lcell_ok ns (3 + k)
      have hj : k / 2 < row.length := by omega
      have vb : cg row (k / 2) < 256 := by
        unfold cg
        rw [List.getD_eq_getElem?_getD, List.getElem?_eq_getElem hj]
        exact r0.2 _ (List.getElem_mem hj)
      have ix : atI (encC row) ((k / 2 : Nat) : Int) = some (.int (cg row (k / 2) : Nat)) := encC_at hj
      have d1 : (k : Int).fdiv 2 = ((k / 2 : Nat) : Int) := nat_fdiv _ 2
      have d2 : (k : Int).fmod 2 = ((k % 2 : Nat) : Int) := nat_fmod _ 2
      have d4 : (k : Int).fmod 4 = ((k % 4 : Nat) : Int) := nat_fmod _ 4
      have w2 : (cg row (k / 2) : Int).fmod 16 = ((cg row (k / 2) % 16 : Nat) : Int) := nat_fmod _ 16
      have q2 : k % 2 < 2 := Nat.mod_lt _ (by decide)
      let new : Nat := if k % 2 = 0 then 16 * hf + cg row (k / 2) % 16 else cg row (k / 2) - cg row (k / 2) % 16 + hf
      have hnew : new < 256 := by
        show (if k % 2 = 0 then 16 * hf + cg row (k / 2) % 16 else cg row (k / 2) - cg row (k / 2) % 16 + hf) < 256
        split <;> omega
      have pick : atI [MV.int (16 * (hf : Int) + ((cg row (k / 2) % 16 : Nat) : Int)), .int ((cg row (k / 2) : Int) - ((cg row (k / 2) % 16 : Nat) : Int) + (hf : Int))] ((k % 2 : Nat) : Int) = some (.int (new : Nat)) := by
        show _ = some (MV.int ((if k % 2 = 0 then 16 * hf + cg row (k / 2) % 16 else cg row (k / 2) - cg row (k / 2) % 16 + hf : Nat) : Int))
        have at2 : ∀ a b : MV, atI [a, b] ((0 : Nat) : Int) = some a ∧ atI [a, b] ((1 : Nat) : Int) = some b := fun _ _ => ⟨rfl, rfl⟩
        have lo16 : cg row (k / 2) % 16 ≤ cg row (k / 2) := Nat.mod_le _ _
        generalize cg row (k / 2) % 16 = lo at *
        generalize cg row (k / 2) = v at *
        rcases (show k % 2 = 0 ∨ k % 2 = 1 by omega) with e | e
        · rw [e, if_pos rfl, (at2 _ _).1]
          have : (16 * (hf : Int) + (lo : Int)) = ((16 * hf + lo : Nat) : Int) := by omega
          rw [this]
        · rw [e, if_neg (by decide), (at2 _ _).2]
          have : ((v : Int) - (lo : Int) + (hf : Int)) = ((v - lo + hf : Nat) : Int) := by omega
          rw [this]
      generalize hnw : new = nw at *
      have ok2 : RowOk L (row.take (k / 2) ++ nw :: row.drop (k / 2 + 1)) := by
        refine ⟨by rw [List.length_append, List.length_cons, List.length_take, List.length_drop]; omega, fun b hb2 => ?_⟩
        rcases List.mem_append.mp hb2 with h | h
        · exact r0.2 b (List.mem_of_mem_take h)
        · rcases List.mem_cons.mp h with rfl | h
          · exact hnew
          · exact r0.2 b (List.mem_of_mem_drop h)
      have enc : encC (row.take (k / 2) ++ nw :: row.drop (k / 2 + 1)) = (encC row).take (k / 2) ++ .int nw :: (encC row).drop (k / 2 + 1) := by
        unfold encC
        rw [List.map_append, List.map_cons, List.map_take, List.map_drop]
      have rr := rt ok2 c3 (441 + k)
      rw [enc] at rr
      have cu1 : cutM (encC row) none (some ((k / 2 : Nat) : Int)) = (encC row).take (k / 2) := by rw [cutM_to (by omega), Int.toNat_natCast]
      have cu2 : cutM (encC row) (some (((k / 2 : Nat) : Int) + 1)) none = (encC row).drop (k / 2 + 1) := by rw [cutM_from (by omega)]; rfl
      have l1 : ((encC row).take (k / 2)).length = k / 2 := by rw [List.length_take]; omega
      have l2 : ((encC row).drop (k / 2 + 1)).length = L - (k / 2 + 1) := by rw [List.length_drop, el]
      have s1 : szOk (k / 2 + 1) = true := szOk_small (by omega)
      have s2 : szOk (k / 2 + 1 + (L - (k / 2 + 1))) = true := szOk_small (by omega)
      have m16 : mulOk 16 (hf : Int) = true := mulOk_l (by decide) (by decide)
      refine ⟨_, rfl, [some (.scr ns), some (.tup fx), some (.tup (encC row)), some (.tup px), some (.int k), some (.int kk), some (.int i), some (.int ss), some (.int name), some (.int dress), some (.int hf), some (.int far), some (.int quarter), some (.int (cg row (k / 2) : Nat)), some (.int (nw : Nat)), some (.tup ((encC row).take (k / 2) ++ .int nw :: (encC row).drop (k / 2 + 1))), some (.int c3)], ?_, _, _, _, _, _, rfl⟩
      clear rt enc ok2
      generalize cg row (k / 2) % 16 = lo at *
      generalize cg row (k / 2) = v at *
      generalize (encC row).take (k / 2) = T1 at *
      generalize (encC row).drop (k / 2 + 1) = T2 at *
      generalize encC row = R at *
      generalize k / 2 = j at *
      generalize k % 2 = k2 at *
      generalize k % 4 = k4 at *
      simp at hc3
      by_cases hq : (k4 : Int) = quarter
      · simp [b_law74_0, d1, d2, d4, divOk, ix, w2, m16, pick, cu1, cu2, l1, l2, s1, s2, szOk_small, hc3, hq, rr]
      · simp [b_law74_0, d1, d2, d4, divOk, ix, w2, m16, pick, cu1, cu2, l1, l2, s1, s2, szOk_small, hc3, hq])
  simp at hc0 hc1 hc2 hds hds2 e
  generalize encC row = R at *
  simp [m_law74, hc0, hc1, hc2, hds, hds2, szOk_small, fp, hfo, hxe, hye, pr, rt0, el, sL, m2, ir, tn, e]
def top (i : Nat) : Stmt := PySem.Challenge.pw_tensloft_k75_whole_caught_three_ways.main.body.getD i (.Pass ⟨0, 0, 0, 0⟩)
abbrev s_ini_Wrong : Stmt := inCls (top 2) 0
theorem sc_ini_Wrong : FnScope ["self", "place", "why"] ["self", "place", "why"] (defScope s_ini_Wrong) := ⟨rfl, rfl, rfl, by decide +kernel, rfl, by decide +kernel, by decide +kernel⟩
theorem ini_Wrong {P : Program} {w : World} {K : PySem.W.Frag} {mg : Str → Option Value} {base : Heap} {a : Addr} {fd : FuncData} (F : Fun K "__init__" "Wrong.__init__" s_ini_Wrong a fd) (B : Bas K mg "LoftError") : FnOk P w K mg base (L2N.CX P w) 2 a fd ["self", "place", "why"] (spI2 K "place" "why") :=
  init2 F sc_ini_Wrong B rfl (fun _ _ => rfl) (by decide +kernel) (by decide +kernel) (by decide +kernel) (fun _ => ⟨_, rfl⟩) (by decide) (by decide) (by decide) (by decide) (by decide)
abbrev s_lmixed : Stmt := top 36
theorem sc_lmixed : FnScope ["_law_cell_here", "_law_k", "_law_salt", "_law_primes", "_law_one", "_law_two"] ["_law_cell_here", "_law_k", "_law_salt"] (defScope s_lmixed) := ⟨rfl, rfl, rfl, by decide +kernel, rfl, by decide +kernel, by decide +kernel⟩
theorem v_lmixed_0 : (defScope s_lmixed).names.lookup ("_law_cell_here" : Str) = some NameKind.local := by decide +kernel
theorem v_lmixed_1 : (defScope s_lmixed).names.lookup ("_law_k" : Str) = some NameKind.local := by decide +kernel
theorem v_lmixed_2 : (defScope s_lmixed).names.lookup ("_law_salt" : Str) = some NameKind.local := by decide +kernel
theorem v_lmixed_3 : (defScope s_lmixed).names.lookup ("_law_primes" : Str) = some NameKind.local := by decide +kernel
theorem v_lmixed_4 : (defScope s_lmixed).names.lookup ("_law_one" : Str) = some NameKind.local := by decide +kernel
theorem v_lmixed_5 : (defScope s_lmixed).names.lookup ("_law_two" : Str) = some NameKind.local := by decide +kernel
theorem ok_lmixed {P : Program} {w : World} {K : PySem.W.Frag} {mg : Str → Option Value} {base : Heap} {f : Addr} {fd : FuncData} (F : Fun K "_law_mixed" "_law_mixed" s_lmixed f fd) (B : Bn mg)     :
    FnOk P w K mg base (L2N.CX P w) 2 f fd ["_law_cell_here", "_law_k", "_law_salt"] (spF K mg 3 [] f_lmixed) := by
  refine fn_ok F sc_lmixed (by decide) (by decide) fun cdv A outer s H E hr => ?_
  have nd := sc_lmixed.nd
  have tk : L2N.Takes (cxOf (L2N.CX P w) P w K mg base ["_law_cell_here", "_law_k", "_law_salt", "_law_primes", "_law_one", "_law_two"] "_law_mixed" (defScope s_lmixed) f cdv A outer s H E) (fun cls d _ H => E cls d H) := L2N.takes_of rfl rfl rfl rfl
  have pn : PassesOwn (model P w) (cxOf (L2N.CX P w) P w K mg base ["_law_cell_here", "_law_k", "_law_salt", "_law_primes", "_law_one", "_law_two"] "_law_mixed" (defScope s_lmixed) f cdv A outer s H E).A (cxOf (L2N.CX P w) P w K mg base ["_law_cell_here", "_law_k", "_law_salt", "_law_primes", "_law_one", "_law_two"] "_law_mixed" (defScope s_lmixed) f cdv A outer s H E).env (cxOf (L2N.CX P w) P w K mg base ["_law_cell_here", "_law_k", "_law_salt", "_law_primes", "_law_one", "_law_two"] "_law_mixed" (defScope s_lmixed) f cdv A outer s H E).xe := passes_of rfl
  unfold m_lmixed
  exact mss_cons (ms_set (i := 3) nd rfl (.inl v_lmixed_3) (me_lst (ma_cons (me_int) (ma_cons (me_int) (ma_cons (me_int) (ma_cons (me_int) (ma_cons (me_int) (ma_cons (me_int) (ma_cons (me_int) (ma_cons (me_int) (ma_nil))))))))))) (mss_cons (ms_set (i := 4) nd rfl (.inl v_lmixed_4) (me_mod (me_add (me_add (me_add (me_var (i := 0) rfl (.inl v_lmixed_0)) (me_mul (me_int) (me_var (i := 2) rfl (.inl v_lmixed_2)))) (me_mul (me_int) (me_var (i := 1) rfl (.inl v_lmixed_1)))) (me_int)) (me_int))) (mss_cons (ms_set (i := 4) nd rfl (.inl v_lmixed_4) (me_mod (me_pow (me_var (i := 4) rfl (.inl v_lmixed_4)) (me_int)) (me_ix (me_var (i := 3) rfl (.inl v_lmixed_3)) (me_mod (me_var (i := 1) rfl (.inl v_lmixed_1)) (me_int))))) (mss_cons (ms_set (i := 5) nd rfl (.inl v_lmixed_5) (me_mod (me_add (me_add (me_var (i := 4) rfl (.inl v_lmixed_4)) (me_mul (me_int) (me_var (i := 2) rfl (.inl v_lmixed_2)))) (me_var (i := 1) rfl (.inl v_lmixed_1))) (me_int))) (mss_one (ms_ret (me_add (me_mul (me_mod (me_pow (me_var (i := 5) rfl (.inl v_lmixed_5)) (me_int)) (me_int)) (me_int)) (me_var (i := 4) rfl (.inl v_lmixed_4))))))))

abbrev s_ldraws : Stmt := top 37
theorem sc_ldraws : FnScope ["_law_cell_here", "_law_salt", "_law_widths", "_law_found", "_law_left", "_law_k"] ["_law_cell_here", "_law_salt", "_law_widths"] (defScope s_ldraws) := ⟨rfl, rfl, rfl, by decide +kernel, rfl, by decide +kernel, by decide +kernel⟩
theorem v_ldraws_0 : (defScope s_ldraws).names.lookup ("_law_cell_here" : Str) = some NameKind.local := by decide +kernel
theorem v_ldraws_1 : (defScope s_ldraws).names.lookup ("_law_salt" : Str) = some NameKind.local := by decide +kernel
theorem v_ldraws_2 : (defScope s_ldraws).names.lookup ("_law_widths" : Str) = some NameKind.local := by decide +kernel
theorem v_ldraws_3 : (defScope s_ldraws).names.lookup ("_law_found" : Str) = some NameKind.local := by decide +kernel
theorem v_ldraws_4 : (defScope s_ldraws).names.lookup ("_law_left" : Str) = some NameKind.local := by decide +kernel
theorem v_ldraws_5 : (defScope s_ldraws).names.lookup ("_law_k" : Str) = some NameKind.local := by decide +kernel
theorem g_ldraws_abs (L a : Addr) (cd : Value) : (PyProof.Rows.envOfC "_law_draws" (defScope s_ldraws) L a cd).kindOf ("abs" : Str) = some NameKind.globalImplicit := rfl
theorem g_ldraws_len (L a : Addr) (cd : Value) : (PyProof.Rows.envOfC "_law_draws" (defScope s_ldraws) L a cd).kindOf ("len" : Str) = some NameKind.globalImplicit := rfl
theorem g_ldraws_range (L a : Addr) (cd : Value) : (PyProof.Rows.envOfC "_law_draws" (defScope s_ldraws) L a cd).kindOf ("range" : Str) = some NameKind.globalImplicit := rfl
theorem g_ldraws_law_mixed (L a : Addr) (cd : Value) : (PyProof.Rows.envOfC "_law_draws" (defScope s_ldraws) L a cd).kindOf ("_law_mixed" : Str) = some NameKind.globalImplicit := rfl
theorem ok_ldraws {P : Program} {w : World} {K : PySem.W.Frag} {mg : Str → Option Value} {base : Heap} {f : Addr} {fd : FuncData} (F : Fun K "_law_draws" "_law_draws" s_ldraws f fd) (B : Bn mg) (h_lmixed : Fd P w K mg base "_law_mixed" 2 ["_law_cell_here", "_law_k", "_law_salt"] [] f_lmixed)    :
    FnOk P w K mg base (L2N.CX P w) 4 f fd ["_law_cell_here", "_law_salt", "_law_widths"] (spF K mg 3 [] f_ldraws) := by
  refine fn_ok F sc_ldraws (by decide) (by decide) fun cdv A outer s H E hr => ?_
  have nd := sc_ldraws.nd
  have tk : L2N.Takes (cxOf (L2N.CX P w) P w K mg base ["_law_cell_here", "_law_salt", "_law_widths", "_law_found", "_law_left", "_law_k"] "_law_draws" (defScope s_ldraws) f cdv A outer s H E) (fun cls d _ H => E cls d H) := L2N.takes_of rfl rfl rfl rfl
  have pn : PassesOwn (model P w) (cxOf (L2N.CX P w) P w K mg base ["_law_cell_here", "_law_salt", "_law_widths", "_law_found", "_law_left", "_law_k"] "_law_draws" (defScope s_ldraws) f cdv A outer s H E).A (cxOf (L2N.CX P w) P w K mg base ["_law_cell_here", "_law_salt", "_law_widths", "_law_found", "_law_left", "_law_k"] "_law_draws" (defScope s_ldraws) f cdv A outer s H E).env (cxOf (L2N.CX P w) P w K mg base ["_law_cell_here", "_law_salt", "_law_widths", "_law_found", "_law_left", "_law_k"] "_law_draws" (defScope s_ldraws) f cdv A outer s H E).xe := passes_of rfl
  unfold m_ldraws
  exact mss_cons (ms_setO (i := 3) nd rfl (.inl v_ldraws_3) (mo_lst (ma_nil))) (mss_cons (ms_set (i := 4) nd rfl (.inl v_ldraws_4) (me_int)) (mss_cons (ms_if (mt_cmp op_ge os_ge (mb_abs B.abs (ma_cons (me_var (i := 0) rfl (.inl v_ldraws_0)) (ma_nil)) (hg := (g_ldraws_abs _ _ _))) (me_pow (me_int) (me_int)) (nomark _)) (mss_one (ms_set (i := 4) nd rfl (.inl v_ldraws_4) (mb_abs B.abs (ma_cons (me_var (i := 0) rfl (.inl v_ldraws_0)) (ma_nil)) (hg := (g_ldraws_abs _ _ _))))) (mss_nil)) (mss_cons (ms_for pn rfl (mi_r1 B.range (ma_cons (mb_len B.len (ma_cons (me_var (i := 2) rfl (.inl v_ldraws_2)) (ma_nil)) (hg := (g_ldraws_len _ _ _))) (ma_nil)) (hg := (g_ldraws_range _ _ _))) (mg_name (i := 5) nd rfl (.inl v_ldraws_5)) (mss_one (ms_if (mt_cmp op_gt os_gt (me_var (i := 4) rfl (.inl v_ldraws_4)) (me_int) (nomark _)) (mss_cons (ms_expr (me_lm1 ls_append PySem.F.slot_list_append PySem.F.type_list_append mt_append (i := 3) rfl (.inl v_ldraws_3) (ma_cons (me_mod (me_var (i := 4) rfl (.inl v_ldraws_4)) (me_ix (me_var (i := 2) rfl (.inl v_ldraws_2)) (me_var (i := 5) rfl (.inl v_ldraws_5)))) (ma_nil)))) (mss_one (ms_set (i := 4) nd rfl (.inl v_ldraws_4) (me_div (me_var (i := 4) rfl (.inl v_ldraws_4)) (me_ix (me_var (i := 2) rfl (.inl v_ldraws_2)) (me_var (i := 5) rfl (.inl v_ldraws_5))))))) (mss_one (ms_expr (me_lm1 ls_append PySem.F.slot_list_append PySem.F.type_list_append mt_append (i := 3) rfl (.inl v_ldraws_3) (ma_cons (me_mod (me_fz (mf_call h_lmixed hr (by decide) tk (ma_cons (me_var (i := 0) rfl (.inl v_ldraws_0)) (ma_cons (me_var (i := 5) rfl (.inl v_ldraws_5)) (ma_cons (me_var (i := 1) rfl (.inl v_ldraws_1)) (ma_nil)))) (lng_cons (lng_cons (lng_cons lng_nil))) (hg := (g_ldraws_law_mixed _ _ _)))) (me_ix (me_var (i := 2) rfl (.inl v_ldraws_2)) (me_var (i := 5) rfl (.inl v_ldraws_5)))) (ma_nil)))))))) (mss_one (ms_retO (mo_var (i := 3) rfl (.inl v_ldraws_3)))))))

abbrev s_lform : Stmt := top 39
theorem sc_lform : FnScope ["_law_kind", "_law_many", "_law_sign", "_law_point"] ["_law_kind", "_law_many", "_law_sign"] (defScope s_lform) := ⟨rfl, rfl, rfl, by decide +kernel, rfl, by decide +kernel, by decide +kernel⟩
theorem v_lform_0 : (defScope s_lform).names.lookup ("_law_kind" : Str) = some NameKind.local := by decide +kernel
theorem v_lform_1 : (defScope s_lform).names.lookup ("_law_many" : Str) = some NameKind.local := by decide +kernel
theorem v_lform_2 : (defScope s_lform).names.lookup ("_law_sign" : Str) = some NameKind.local := by decide +kernel
theorem v_lform_3 : (defScope s_lform).names.lookup ("_law_point" : Str) = some NameKind.local := by decide +kernel
theorem ok_lform {P : Program} {w : World} {K : PySem.W.Frag} {mg : Str → Option Value} {base : Heap} {f : Addr} {fd : FuncData} (F : Fun K "_law_form" "_law_form" s_lform f fd) (B : Bn mg)     :
    FnOk P w K mg base (L2N.CX P w) 2 f fd ["_law_kind", "_law_many", "_law_sign"] (spF K mg 3 [] f_lform) := by
  refine fn_ok F sc_lform (by decide) (by decide) fun cdv A outer s H E hr => ?_
  have nd := sc_lform.nd
  have tk : L2N.Takes (cxOf (L2N.CX P w) P w K mg base ["_law_kind", "_law_many", "_law_sign", "_law_point"] "_law_form" (defScope s_lform) f cdv A outer s H E) (fun cls d _ H => E cls d H) := L2N.takes_of rfl rfl rfl rfl
  have pn : PassesOwn (model P w) (cxOf (L2N.CX P w) P w K mg base ["_law_kind", "_law_many", "_law_sign", "_law_point"] "_law_form" (defScope s_lform) f cdv A outer s H E).A (cxOf (L2N.CX P w) P w K mg base ["_law_kind", "_law_many", "_law_sign", "_law_point"] "_law_form" (defScope s_lform) f cdv A outer s H E).env (cxOf (L2N.CX P w) P w K mg base ["_law_kind", "_law_many", "_law_sign", "_law_point"] "_law_form" (defScope s_lform) f cdv A outer s H E).xe := passes_of rfl
  unfold m_lform
  exact mss_cons (ms_set (i := 3) nd rfl (.inl v_lform_3) (me_mod (me_add (me_add (me_mul (me_int) (me_var (i := 1) rfl (.inl v_lform_1))) (me_mul (me_int) (me_var (i := 0) rfl (.inl v_lform_0)))) (me_var (i := 2) rfl (.inl v_lform_2))) (me_add (me_var (i := 1) rfl (.inl v_lform_1)) (me_int)))) (mss_one (ms_ret (me_tup (ma_cons (me_ix (me_lst (ma_cons (me_str) (ma_cons (me_str) (ma_nil)))) (me_var (i := 0) rfl (.inl v_lform_0))) (ma_cons (me_add (me_int) (me_var (i := 1) rfl (.inl v_lform_1))) (ma_cons (me_ix (me_lst (ma_cons (me_str) (ma_cons (me_str) (ma_cons (me_str) (ma_nil))))) (me_var (i := 2) rfl (.inl v_lform_2))) (ma_cons (me_var (i := 3) rfl (.inl v_lform_3)) (ma_nil))))))))

abbrev s_lpower : Stmt := top 38
theorem sc_lpower : FnScope ["_law_base", "_law_many", "_law_found", "_law_k"] ["_law_base", "_law_many"] (defScope s_lpower) := ⟨rfl, rfl, rfl, by decide +kernel, rfl, by decide +kernel, by decide +kernel⟩
theorem v_lpower_0 : (defScope s_lpower).names.lookup ("_law_base" : Str) = some NameKind.local := by decide +kernel
theorem v_lpower_1 : (defScope s_lpower).names.lookup ("_law_many" : Str) = some NameKind.local := by decide +kernel
theorem v_lpower_2 : (defScope s_lpower).names.lookup ("_law_found" : Str) = some NameKind.local := by decide +kernel
theorem v_lpower_3 : (defScope s_lpower).names.lookup ("_law_k" : Str) = some NameKind.local := by decide +kernel
theorem g_lpower_range (L a : Addr) (cd : Value) : (PyProof.Rows.envOfC "_law_power" (defScope s_lpower) L a cd).kindOf ("range" : Str) = some NameKind.globalImplicit := rfl
theorem ok_lpower {P : Program} {w : World} {K : PySem.W.Frag} {mg : Str → Option Value} {base : Heap} {f : Addr} {fd : FuncData} (F : Fun K "_law_power" "_law_power" s_lpower f fd) (B : Bn mg)     :
    FnOk P w K mg base (L2N.CX P w) 2 f fd ["_law_base", "_law_many"] (spF K mg 2 [] f_lpower) := by
  refine fn_ok F sc_lpower (by decide) (by decide) fun cdv A outer s H E hr => ?_
  have nd := sc_lpower.nd
  have tk : L2N.Takes (cxOf (L2N.CX P w) P w K mg base ["_law_base", "_law_many", "_law_found", "_law_k"] "_law_power" (defScope s_lpower) f cdv A outer s H E) (fun cls d _ H => E cls d H) := L2N.takes_of rfl rfl rfl rfl
  have pn : PassesOwn (model P w) (cxOf (L2N.CX P w) P w K mg base ["_law_base", "_law_many", "_law_found", "_law_k"] "_law_power" (defScope s_lpower) f cdv A outer s H E).A (cxOf (L2N.CX P w) P w K mg base ["_law_base", "_law_many", "_law_found", "_law_k"] "_law_power" (defScope s_lpower) f cdv A outer s H E).env (cxOf (L2N.CX P w) P w K mg base ["_law_base", "_law_many", "_law_found", "_law_k"] "_law_power" (defScope s_lpower) f cdv A outer s H E).xe := passes_of rfl
  unfold m_lpower
  exact mss_cons (ms_set (i := 2) nd rfl (.inl v_lpower_2) (me_int)) (mss_cons (ms_for pn rfl (mi_r1 B.range (ma_cons (me_var (i := 1) rfl (.inl v_lpower_1)) (ma_nil)) (hg := (g_lpower_range _ _ _))) (mg_name (i := 3) nd rfl (.inl v_lpower_3)) (mss_one (ms_set (i := 2) nd rfl (.inl v_lpower_2) (me_mul (me_var (i := 2) rfl (.inl v_lpower_2)) (me_var (i := 0) rfl (.inl v_lpower_0)))))) (mss_one (ms_ret (me_var (i := 2) rfl (.inl v_lpower_2)))))

abbrev s_lfigures : Stmt := top 41
theorem sc_lfigures : FnScope ["_law_form_here", "_law_number_here", "_law_size", "_law_found", "_law_k"] ["_law_form_here", "_law_number_here"] (defScope s_lfigures) := ⟨rfl, rfl, rfl, by decide +kernel, rfl, by decide +kernel, by decide +kernel⟩
theorem v_lfigures_0 : (defScope s_lfigures).names.lookup ("_law_form_here" : Str) = some NameKind.local := by decide +kernel
theorem v_lfigures_1 : (defScope s_lfigures).names.lookup ("_law_number_here" : Str) = some NameKind.local := by decide +kernel
theorem v_lfigures_2 : (defScope s_lfigures).names.lookup ("_law_size" : Str) = some NameKind.local := by decide +kernel
theorem v_lfigures_3 : (defScope s_lfigures).names.lookup ("_law_found" : Str) = some NameKind.local := by decide +kernel
theorem v_lfigures_4 : (defScope s_lfigures).names.lookup ("_law_k" : Str) = some NameKind.local := by decide +kernel
theorem g_lfigures_abs (L a : Addr) (cd : Value) : (PyProof.Rows.envOfC "_law_figures" (defScope s_lfigures) L a cd).kindOf ("abs" : Str) = some NameKind.globalImplicit := rfl
theorem g_lfigures_law_power (L a : Addr) (cd : Value) : (PyProof.Rows.envOfC "_law_figures" (defScope s_lfigures) L a cd).kindOf ("_law_power" : Str) = some NameKind.globalImplicit := rfl
theorem g_lfigures_range (L a : Addr) (cd : Value) : (PyProof.Rows.envOfC "_law_figures" (defScope s_lfigures) L a cd).kindOf ("range" : Str) = some NameKind.globalImplicit := rfl
theorem ok_lfigures {P : Program} {w : World} {K : PySem.W.Frag} {mg : Str → Option Value} {base : Heap} {f : Addr} {fd : FuncData} (F : Fun K "_law_figures" "_law_figures" s_lfigures f fd) (B : Bn mg) (h_lpower : Fd P w K mg base "_law_power" 2 ["_law_base", "_law_many"] [] f_lpower)    :
    FnOk P w K mg base (L2N.CX P w) 4 f fd ["_law_form_here", "_law_number_here"] (spF K mg 2 [] f_lfigures) := by
  refine fn_ok F sc_lfigures (by decide) (by decide) fun cdv A outer s H E hr => ?_
  have nd := sc_lfigures.nd
  have tk : L2N.Takes (cxOf (L2N.CX P w) P w K mg base ["_law_form_here", "_law_number_here", "_law_size", "_law_found", "_law_k"] "_law_figures" (defScope s_lfigures) f cdv A outer s H E) (fun cls d _ H => E cls d H) := L2N.takes_of rfl rfl rfl rfl
  have pn : PassesOwn (model P w) (cxOf (L2N.CX P w) P w K mg base ["_law_form_here", "_law_number_here", "_law_size", "_law_found", "_law_k"] "_law_figures" (defScope s_lfigures) f cdv A outer s H E).A (cxOf (L2N.CX P w) P w K mg base ["_law_form_here", "_law_number_here", "_law_size", "_law_found", "_law_k"] "_law_figures" (defScope s_lfigures) f cdv A outer s H E).env (cxOf (L2N.CX P w) P w K mg base ["_law_form_here", "_law_number_here", "_law_size", "_law_found", "_law_k"] "_law_figures" (defScope s_lfigures) f cdv A outer s H E).xe := passes_of rfl
  unfold m_lfigures
  exact mss_cons (ms_set (i := 2) nd rfl (.inl v_lfigures_2) (mb_abs B.abs (ma_cons (me_var (i := 1) rfl (.inl v_lfigures_1)) (ma_nil)) (hg := (g_lfigures_abs _ _ _)))) (mss_cons (ms_if (mt_cmp (op_eqM hr.units) os_eq (me_ix (me_var (i := 0) rfl (.inl v_lfigures_0)) (me_int)) (me_str) (nomark _)) (mss_one (ms_set (i := 2) nd rfl (.inl v_lfigures_2) (me_mod (me_var (i := 1) rfl (.inl v_lfigures_1)) (me_fz (mf_call h_lpower hr (by decide) tk (ma_cons (me_int) (ma_cons (me_ix (me_var (i := 0) rfl (.inl v_lfigures_0)) (me_int)) (ma_nil))) (lng_cons (lng_cons lng_nil)) (hg := (g_lfigures_law_power _ _ _))))))) (mss_nil)) (mss_cons (ms_setO (i := 3) nd rfl (.inl v_lfigures_3) (mo_lst (ma_nil))) (mss_cons (ms_for pn rfl (mi_r1 B.range (ma_cons (me_ix (me_var (i := 0) rfl (.inl v_lfigures_0)) (me_int)) (ma_nil)) (hg := (g_lfigures_range _ _ _))) (mg_name (i := 4) nd rfl (.inl v_lfigures_4)) (mss_cons (ms_expr (me_lm1 ls_append PySem.F.slot_list_append PySem.F.type_list_append mt_append (i := 3) rfl (.inl v_lfigures_3) (ma_cons (me_mod (me_var (i := 2) rfl (.inl v_lfigures_2)) (me_int)) (ma_nil)))) (mss_one (ms_set (i := 2) nd rfl (.inl v_lfigures_2) (me_div (me_var (i := 2) rfl (.inl v_lfigures_2)) (me_int)))))) (mss_one (ms_ret (me_revA (me_var (i := 3) rfl (.inl v_lfigures_3))))))))

abbrev s_lby_halves : Stmt := top 42
theorem sc_lby_halves : FnScope ["_law_halves", "_law_k"] ["_law_halves"] (defScope s_lby_halves) := ⟨rfl, rfl, rfl, by decide +kernel, rfl, by decide +kernel, by decide +kernel⟩
theorem v_lby_halves_0 : (defScope s_lby_halves).names.lookup ("_law_halves" : Str) = some NameKind.cell := by decide +kernel
theorem g_lby_halves_len (L a : Addr) (cd : Value) : (PyProof.Rows.envOfC "_law_by_halves" (defScope s_lby_halves) L a cd).kindOf ("len" : Str) = some NameKind.globalImplicit := rfl
theorem g_lby_halves_range (L a : Addr) (cd : Value) : (PyProof.Rows.envOfC "_law_by_halves" (defScope s_lby_halves) L a cd).kindOf ("range" : Str) = some NameKind.globalImplicit := rfl
theorem g_lby_halves_tuple (L a : Addr) (cd : Value) : (PyProof.Rows.envOfC "_law_by_halves" (defScope s_lby_halves) L a cd).kindOf ("tuple" : Str) = some NameKind.globalImplicit := rfl
theorem ok_lby_halves {P : Program} {w : World} {K : PySem.W.Frag} {mg : Str → Option Value} {base : Heap} {f : Addr} {fd : FuncData} (F : Fun K "_law_by_halves" "_law_by_halves" s_lby_halves f fd) (B : Bn mg)     :
    FnOk P w K mg base (L2N.CX P w) 2 f fd ["_law_halves"] (spF K mg 1 [] f_lby_halves) := by
  refine fn_ok F sc_lby_halves (by decide) (by decide) fun cdv A outer s H E hr => ?_
  have nd := sc_lby_halves.nd
  have tk : L2N.Takes (cxOf (L2N.CX P w) P w K mg base ["_law_halves", "_law_k"] "_law_by_halves" (defScope s_lby_halves) f cdv A outer s H E) (fun cls d _ H => E cls d H) := L2N.takes_of rfl rfl rfl rfl
  have pn : PassesOwn (model P w) (cxOf (L2N.CX P w) P w K mg base ["_law_halves", "_law_k"] "_law_by_halves" (defScope s_lby_halves) f cdv A outer s H E).A (cxOf (L2N.CX P w) P w K mg base ["_law_halves", "_law_k"] "_law_by_halves" (defScope s_lby_halves) f cdv A outer s H E).env (cxOf (L2N.CX P w) P w K mg base ["_law_halves", "_law_k"] "_law_by_halves" (defScope s_lby_halves) f cdv A outer s H E).xe := passes_of rfl
  unfold m_lby_halves
  exact mss_one (ms_ret (mb_tuple B.tuple (ma_cons (me_fz (mo_lc (own := [("_law_k", 1)]) (g := .nm 1) rfl nd (mi_r3 B.range (ma_cons (me_int) (ma_cons (mb_len B.len (ma_cons (me_var (i := 0) rfl (.inr (.inl v_lby_halves_0))) (ma_nil)) (hg := (g_lby_halves_len _ _ _))) (ma_cons (me_int) (ma_nil)))) (hg := (g_lby_halves_range _ _ _))) (blkOk_at (N' := ["_law_halves", "_law_k"]) (sc' := defScope s_lby_halves) rfl rfl (by decide +kernel)) (fun _ _ _ _ _ => pg_name (i := 1) nd rfl (Or.inl rfl)) (fun _ _ _ _ _ => mts_nil) (fun _ _ _ _ _ => me_add (me_mul (me_int) (me_ix (me_var (i := 0) rfl (by first | exact .inr (.inr rfl) | exact .inl rfl | exact .inr (.inl rfl))) (me_var (i := 1) rfl (.inl rfl)))) (me_ix (me_var (i := 0) rfl (by first | exact .inr (.inr rfl) | exact .inl rfl | exact .inr (.inl rfl))) (me_add (me_var (i := 1) rfl (.inl rfl)) (me_int)))) (hbs := hbs_of rfl))) (ma_nil)) (hg := (g_lby_halves_tuple _ _ _))))

abbrev s_lrow_with : Stmt := top 43
theorem sc_lrow_with : FnScope ["_law_form_here", "_law_number_here", "_law_half", "_law_halves", "_law_zones", "_law_zone", "_law_figure"] ["_law_form_here", "_law_number_here", "_law_half"] (defScope s_lrow_with) := ⟨rfl, rfl, rfl, by decide +kernel, rfl, by decide +kernel, by decide +kernel⟩
theorem v_lrow_with_0 : (defScope s_lrow_with).names.lookup ("_law_form_here" : Str) = some NameKind.local := by decide +kernel
theorem v_lrow_with_1 : (defScope s_lrow_with).names.lookup ("_law_number_here" : Str) = some NameKind.local := by decide +kernel
theorem v_lrow_with_2 : (defScope s_lrow_with).names.lookup ("_law_half" : Str) = some NameKind.local := by decide +kernel
theorem v_lrow_with_3 : (defScope s_lrow_with).names.lookup ("_law_halves" : Str) = some NameKind.local := by decide +kernel
theorem v_lrow_with_4 : (defScope s_lrow_with).names.lookup ("_law_zones" : Str) = some NameKind.local := by decide +kernel
theorem g_lrow_with_law_figures (L a : Addr) (cd : Value) : (PyProof.Rows.envOfC "_law_row_with" (defScope s_lrow_with) L a cd).kindOf ("_law_figures" : Str) = some NameKind.globalImplicit := rfl
theorem g_lrow_with_len (L a : Addr) (cd : Value) : (PyProof.Rows.envOfC "_law_row_with" (defScope s_lrow_with) L a cd).kindOf ("len" : Str) = some NameKind.globalImplicit := rfl
theorem g_lrow_with_law_by_halves (L a : Addr) (cd : Value) : (PyProof.Rows.envOfC "_law_row_with" (defScope s_lrow_with) L a cd).kindOf ("_law_by_halves" : Str) = some NameKind.globalImplicit := rfl
theorem g_lrow_with_zip (L a : Addr) (cd : Value) : (PyProof.Rows.envOfC "_law_row_with" (defScope s_lrow_with) L a cd).kindOf ("zip" : Str) = some NameKind.globalImplicit := rfl
theorem g_lrow_with_tuple (L a : Addr) (cd : Value) : (PyProof.Rows.envOfC "_law_row_with" (defScope s_lrow_with) L a cd).kindOf ("tuple" : Str) = some NameKind.globalImplicit := rfl
theorem ok_lrow_with {P : Program} {w : World} {K : PySem.W.Frag} {mg : Str → Option Value} {base : Heap} {f : Addr} {fd : FuncData} (F : Fun K "_law_row_with" "_law_row_with" s_lrow_with f fd) (B : Bn mg) (h_lfigures : Fd P w K mg base "_law_figures" 4 ["_law_form_here", "_law_number_here"] [] f_lfigures) (h_lby_halves : Fd P w K mg base "_law_by_halves" 2 ["_law_halves"] [] f_lby_halves)    :
    FnOk P w K mg base (L2N.CX P w) 6 f fd ["_law_form_here", "_law_number_here", "_law_half"] (spF K mg 3 [] f_lrow_with) := by
  refine fn_ok F sc_lrow_with (by decide) (by decide) fun cdv A outer s H E hr => ?_
  have nd := sc_lrow_with.nd
  have tk : L2N.Takes (cxOf (L2N.CX P w) P w K mg base ["_law_form_here", "_law_number_here", "_law_half", "_law_halves", "_law_zones", "_law_zone", "_law_figure"] "_law_row_with" (defScope s_lrow_with) f cdv A outer s H E) (fun cls d _ H => E cls d H) := L2N.takes_of rfl rfl rfl rfl
  have pn : PassesOwn (model P w) (cxOf (L2N.CX P w) P w K mg base ["_law_form_here", "_law_number_here", "_law_half", "_law_halves", "_law_zones", "_law_zone", "_law_figure"] "_law_row_with" (defScope s_lrow_with) f cdv A outer s H E).A (cxOf (L2N.CX P w) P w K mg base ["_law_form_here", "_law_number_here", "_law_half", "_law_halves", "_law_zones", "_law_zone", "_law_figure"] "_law_row_with" (defScope s_lrow_with) f cdv A outer s H E).env (cxOf (L2N.CX P w) P w K mg base ["_law_form_here", "_law_number_here", "_law_half", "_law_halves", "_law_zones", "_law_zone", "_law_figure"] "_law_row_with" (defScope s_lrow_with) f cdv A outer s H E).xe := passes_of rfl
  unfold m_lrow_with
  exact mss_cons (ms_set (i := 3) nd rfl (.inl v_lrow_with_3) (me_fz (mf_call h_lfigures hr (by decide) tk (ma_cons (me_var (i := 0) rfl (.inl v_lrow_with_0)) (ma_cons (me_var (i := 1) rfl (.inl v_lrow_with_1)) (ma_nil))) (lng_cons (lng_cons lng_nil)) (hg := (g_lrow_with_law_figures _ _ _))))) (mss_cons (ms_if (mt_cmp (op_eqM hr.units) os_eq (me_ix (me_var (i := 0) rfl (.inl v_lrow_with_0)) (me_int)) (me_str) (nomark _)) (mss_cons (ms_if (mt_cmp (op_eqM hr.units) os_eq (me_ix (me_var (i := 0) rfl (.inl v_lrow_with_0)) (me_int)) (me_str) (nomark _)) (mss_one (ms_set (i := 3) nd rfl (.inl v_lrow_with_3) (me_add (me_var (i := 3) rfl (.inl v_lrow_with_3)) (me_lst (ma_cons (me_var (i := 2) rfl (.inl v_lrow_with_2)) (ma_nil)))))) (mss_nil)) (mss_one (ms_ret (me_fz (mf_call h_lby_halves hr (by decide) tk (ma_cons (me_add (me_mul (me_lst (ma_cons (me_int) (ma_nil))) (me_mod (mb_len B.len (ma_cons (me_var (i := 3) rfl (.inl v_lrow_with_3)) (ma_nil)) (hg := (g_lrow_with_len _ _ _))) (me_int))) (me_var (i := 3) rfl (.inl v_lrow_with_3))) (ma_nil)) (lng_cons lng_nil) (hg := (g_lrow_with_law_by_halves _ _ _))))))) (mss_nil)) (mss_cons (ms_setO (i := 4) nd rfl (.inl v_lrow_with_4) (mo_mult (me_lst (ma_cons (me_int) (ma_nil))) (me_ix (me_var (i := 0) rfl (.inl v_lrow_with_0)) (me_int)))) (mss_cons (ms_if (mt_cmp (op_eqM hr.units) os_eq (me_ix (me_var (i := 0) rfl (.inl v_lrow_with_0)) (me_int)) (me_str) (nomark _)) (mss_one (ms_setIx (i := 4) rfl (.inl v_lrow_with_4) (me_var (i := 2) rfl (.inl v_lrow_with_2)) (me_neg (me_int)))) (mss_nil)) (mss_one (ms_ret (mb_tuple B.tuple (ma_cons (me_fz (mo_lc (own := [("_law_zone", 5), ("_law_figure", 6)]) (g := .tp [5, 6]) rfl nd (mi_zip B.zip (ma_cons (me_var (i := 4) rfl (.inl v_lrow_with_4)) (ma_cons (me_var (i := 3) rfl (.inl v_lrow_with_3)) (ma_nil))) (hg := (g_lrow_with_zip _ _ _))) (blkOk_at (N' := ["_law_form_here", "_law_number_here", "_law_half", "_law_halves", "_law_zones", "_law_zone", "_law_figure"]) (sc' := defScope s_lrow_with) rfl rfl (by decide +kernel)) (fun _ _ _ _ _ => pg_tup rfl (pgs_cons (pg_name (i := 5) nd rfl (Or.inl rfl)) (pgs_cons (pg_name (i := 6) nd rfl (Or.inl rfl)) (pgs_nil)))) (fun _ _ _ _ _ => mts_nil) (fun _ _ _ _ _ => me_add (me_mul (me_int) (me_var (i := 5) rfl (.inl rfl))) (me_var (i := 6) rfl (.inl rfl))) (hbs := hbs_of rfl))) (ma_nil)) (hg := (g_lrow_with_tuple _ _ _))))))))

abbrev s_ldressed : Stmt := top 44
theorem sc_ldressed : FnScope ["_law_form_here", "_law_number_here", "_law_digit", "_law_some"] ["_law_form_here", "_law_number_here", "_law_digit"] (defScope s_ldressed) := ⟨rfl, rfl, rfl, by decide +kernel, rfl, by decide +kernel, by decide +kernel⟩
theorem v_ldressed_0 : (defScope s_ldressed).names.lookup ("_law_form_here" : Str) = some NameKind.local := by decide +kernel
theorem v_ldressed_1 : (defScope s_ldressed).names.lookup ("_law_number_here" : Str) = some NameKind.local := by decide +kernel
theorem v_ldressed_2 : (defScope s_ldressed).names.lookup ("_law_digit" : Str) = some NameKind.local := by decide +kernel
theorem v_ldressed_3 : (defScope s_ldressed).names.lookup ("_law_some" : Str) = some NameKind.local := by decide +kernel
theorem g_ldressed_len (L a : Addr) (cd : Value) : (PyProof.Rows.envOfC "_law_dressed" (defScope s_ldressed) L a cd).kindOf ("len" : Str) = some NameKind.globalImplicit := rfl
theorem g_ldressed_law_row_with (L a : Addr) (cd : Value) : (PyProof.Rows.envOfC "_law_dressed" (defScope s_ldressed) L a cd).kindOf ("_law_row_with" : Str) = some NameKind.globalImplicit := rfl
theorem ok_ldressed {P : Program} {w : World} {K : PySem.W.Frag} {mg : Str → Option Value} {base : Heap} {f : Addr} {fd : FuncData} (F : Fun K "_law_dressed" "_law_dressed" s_ldressed f fd) (B : Bn mg) (h_lrow_with : Fd P w K mg base "_law_row_with" 6 ["_law_form_here", "_law_number_here", "_law_half"] [] f_lrow_with)    :
    FnOk P w K mg base (L2N.CX P w) 8 f fd ["_law_form_here", "_law_number_here", "_law_digit"] (spF K mg 3 [] f_ldressed) := by
  refine fn_ok F sc_ldressed (by decide) (by decide) fun cdv A outer s H E hr => ?_
  have nd := sc_ldressed.nd
  have tk : L2N.Takes (cxOf (L2N.CX P w) P w K mg base ["_law_form_here", "_law_number_here", "_law_digit", "_law_some"] "_law_dressed" (defScope s_ldressed) f cdv A outer s H E) (fun cls d _ H => E cls d H) := L2N.takes_of rfl rfl rfl rfl
  have pn : PassesOwn (model P w) (cxOf (L2N.CX P w) P w K mg base ["_law_form_here", "_law_number_here", "_law_digit", "_law_some"] "_law_dressed" (defScope s_ldressed) f cdv A outer s H E).A (cxOf (L2N.CX P w) P w K mg base ["_law_form_here", "_law_number_here", "_law_digit", "_law_some"] "_law_dressed" (defScope s_ldressed) f cdv A outer s H E).env (cxOf (L2N.CX P w) P w K mg base ["_law_form_here", "_law_number_here", "_law_digit", "_law_some"] "_law_dressed" (defScope s_ldressed) f cdv A outer s H E).xe := passes_of rfl
  unfold m_ldressed
  exact mss_cons (ms_set (i := 3) nd rfl (.inl v_ldressed_3) (me_lst (ma_cons (me_int) (ma_cons (me_int) (ma_cons (me_int) (ma_cons (me_int) (ma_cons (me_int) (ma_cons (me_int) (ma_nil))))))))) (mss_cons (ms_if (mt_cmp op_gt os_gt (me_var (i := 1) rfl (.inl v_ldressed_1)) (me_int) (nomark _)) (mss_one (ms_set (i := 3) nd rfl (.inl v_ldressed_3) (me_lst (ma_cons (me_int) (ma_cons (me_int) (ma_cons (me_int) (ma_cons (me_int) (ma_nil)))))))) (mss_nil)) (mss_cons (ms_if (mt_cmp op_lt os_lt (me_var (i := 1) rfl (.inl v_ldressed_1)) (me_int) (nomark _)) (mss_one (ms_set (i := 3) nd rfl (.inl v_ldressed_3) (me_lst (ma_cons (me_int) (ma_cons (me_int) (ma_nil)))))) (mss_nil)) (mss_one (ms_ret (me_fz (mf_call h_lrow_with hr (by decide) tk (ma_cons (me_var (i := 0) rfl (.inl v_ldressed_0)) (ma_cons (me_var (i := 1) rfl (.inl v_ldressed_1)) (ma_cons (me_ix (me_var (i := 3) rfl (.inl v_ldressed_3)) (me_mod (me_var (i := 2) rfl (.inl v_ldressed_2)) (mb_len B.len (ma_cons (me_var (i := 3) rfl (.inl v_ldressed_3)) (ma_nil)) (hg := (g_ldressed_len _ _ _))))) (ma_nil)))) (lng_cons (lng_cons (lng_cons lng_nil))) (hg := (g_ldressed_law_row_with _ _ _))))))))

abbrev s_phalf_looks : Stmt := top 31
theorem sc_phalf_looks : FnScope ["form", "looks", "kind", "figures", "sign"] ["form"] (defScope s_phalf_looks) := ⟨rfl, rfl, rfl, by decide +kernel, rfl, by decide +kernel, by decide +kernel⟩
theorem v_phalf_looks_0 : (defScope s_phalf_looks).names.lookup ("form" : Str) = some NameKind.local := by decide +kernel
theorem v_phalf_looks_1 : (defScope s_phalf_looks).names.lookup ("looks" : Str) = some NameKind.local := by decide +kernel
theorem v_phalf_looks_2 : (defScope s_phalf_looks).names.lookup ("kind" : Str) = some NameKind.local := by decide +kernel
theorem v_phalf_looks_3 : (defScope s_phalf_looks).names.lookup ("figures" : Str) = some NameKind.local := by decide +kernel
theorem v_phalf_looks_4 : (defScope s_phalf_looks).names.lookup ("sign" : Str) = some NameKind.local := by decide +kernel
theorem g_phalf_looks_IS_FIGURE (L a : Addr) (cd : Value) : (PyProof.Rows.envOfC "half_looks" (defScope s_phalf_looks) L a cd).kindOf ("IS_FIGURE" : Str) = some NameKind.globalImplicit := rfl
theorem g_phalf_looks_IS_ZONE (L a : Addr) (cd : Value) : (PyProof.Rows.envOfC "half_looks" (defScope s_phalf_looks) L a cd).kindOf ("IS_ZONE" : Str) = some NameKind.globalImplicit := rfl
theorem g_phalf_looks_IS_SIGN (L a : Addr) (cd : Value) : (PyProof.Rows.envOfC "half_looks" (defScope s_phalf_looks) L a cd).kindOf ("IS_SIGN" : Str) = some NameKind.globalImplicit := rfl
theorem g_phalf_looks_IS_NOUGHT (L a : Addr) (cd : Value) : (PyProof.Rows.envOfC "half_looks" (defScope s_phalf_looks) L a cd).kindOf ("IS_NOUGHT" : Str) = some NameKind.globalImplicit := rfl
theorem g_phalf_looks_len (L a : Addr) (cd : Value) : (PyProof.Rows.envOfC "half_looks" (defScope s_phalf_looks) L a cd).kindOf ("len" : Str) = some NameKind.globalImplicit := rfl
theorem ok_phalf_looks {P : Program} {w : World} {K : PySem.W.Frag} {mg : Str → Option Value} {base : Heap} {f : Addr} {fd : FuncData} (F : Fun K "half_looks" "half_looks" s_phalf_looks f fd) (B : Bn mg)    (c_IS_FIGURE : Cst K mg "IS_FIGURE" (.int 0)) (c_IS_ZONE : Cst K mg "IS_ZONE" (.int 3)) (c_IS_SIGN : Cst K mg "IS_SIGN" (.int 1)) (c_IS_NOUGHT : Cst K mg "IS_NOUGHT" (.int 2)) :
    FnOk P w K mg base (L2N.CX P w) 2 f fd ["form"] (spF K mg 1 [] f_phalf_looks) := by
  refine fn_ok F sc_phalf_looks (by decide) (by decide) fun cdv A outer s H E hr => ?_
  have nd := sc_phalf_looks.nd
  have tk : L2N.Takes (cxOf (L2N.CX P w) P w K mg base ["form", "looks", "kind", "figures", "sign"] "half_looks" (defScope s_phalf_looks) f cdv A outer s H E) (fun cls d _ H => E cls d H) := L2N.takes_of rfl rfl rfl rfl
  have pn : PassesOwn (model P w) (cxOf (L2N.CX P w) P w K mg base ["form", "looks", "kind", "figures", "sign"] "half_looks" (defScope s_phalf_looks) f cdv A outer s H E).A (cxOf (L2N.CX P w) P w K mg base ["form", "looks", "kind", "figures", "sign"] "half_looks" (defScope s_phalf_looks) f cdv A outer s H E).env (cxOf (L2N.CX P w) P w K mg base ["form", "looks", "kind", "figures", "sign"] "half_looks" (defScope s_phalf_looks) f cdv A outer s H E).xe := passes_of rfl
  unfold m_phalf_looks
  exact mss_cons (ms_asg (me_sl (me_var (i := 0) rfl (.inl v_phalf_looks_0)) (mp_none) (mp_some (me_int))) (mg_tup rfl (mgs_cons (mg_name (i := 2) nd rfl (.inl v_phalf_looks_2)) (mgs_cons (mg_name (i := 3) nd rfl (.inl v_phalf_looks_3)) (mgs_cons (mg_name (i := 4) nd rfl (.inl v_phalf_looks_4)) (mgs_nil)))))) (mss_cons (ms_if (mt_cmp (op_eqM hr.units) os_eq (me_var (i := 2) rfl (.inl v_phalf_looks_2)) (me_str) (nomark _)) (mss_cons (ms_setO (i := 1) nd rfl (.inl v_phalf_looks_1) (mo_mult (me_lst (ma_cons (mf_con c_IS_ZONE (hg := (g_phalf_looks_IS_ZONE _ _ _))) (ma_cons (mf_con c_IS_FIGURE (hg := (g_phalf_looks_IS_FIGURE _ _ _))) (ma_nil)))) (me_var (i := 3) rfl (.inl v_phalf_looks_3)))) (mss_cons (ms_if (mt_cmp (op_eqM hr.units) os_eq (me_var (i := 4) rfl (.inl v_phalf_looks_4)) (me_str) (nomark _)) (mss_one (ms_setIx (i := 1) rfl (.inl v_phalf_looks_1) (mf_con c_IS_SIGN (hg := (g_phalf_looks_IS_SIGN _ _ _))) (me_neg (me_int)))) (mss_nil)) (mss_one (ms_retO (mo_var (i := 1) rfl (.inl v_phalf_looks_1)))))) (mss_nil)) (mss_cons (ms_setO (i := 1) nd rfl (.inl v_phalf_looks_1) (mo_mult (me_lst (ma_cons (mf_con c_IS_FIGURE (hg := (g_phalf_looks_IS_FIGURE _ _ _))) (ma_nil))) (me_var (i := 3) rfl (.inl v_phalf_looks_3)))) (mss_cons (ms_if (mt_cmp (op_eqM hr.units) os_eq (me_var (i := 4) rfl (.inl v_phalf_looks_4)) (me_str) (nomark _)) (mss_one (ms_expr (me_lm1 ls_append PySem.F.slot_list_append PySem.F.type_list_append mt_append (i := 1) rfl (.inl v_phalf_looks_1) (ma_cons (mf_con c_IS_SIGN (hg := (g_phalf_looks_IS_SIGN _ _ _))) (ma_nil))))) (mss_nil)) (mss_one (ms_ret (me_add (me_mul (me_lst (ma_cons (mf_con c_IS_NOUGHT (hg := (g_phalf_looks_IS_NOUGHT _ _ _))) (ma_nil))) (me_mod (me_lenV B.len (i := 1) rfl (.inl v_phalf_looks_1) (hg := (g_phalf_looks_len _ _ _))) (me_int))) (me_var (i := 1) rfl (.inl v_phalf_looks_1))))))))

abbrev s_pflag_table : Stmt := top 22
theorem sc_pflag_table : FnScope ["is_high", "good", "found", "byte", "half"] ["is_high", "good"] (defScope s_pflag_table) := ⟨rfl, rfl, rfl, by decide +kernel, rfl, by decide +kernel, by decide +kernel⟩
theorem v_pflag_table_0 : (defScope s_pflag_table).names.lookup ("is_high" : Str) = some NameKind.local := by decide +kernel
theorem v_pflag_table_1 : (defScope s_pflag_table).names.lookup ("good" : Str) = some NameKind.local := by decide +kernel
theorem v_pflag_table_2 : (defScope s_pflag_table).names.lookup ("found" : Str) = some NameKind.local := by decide +kernel
theorem v_pflag_table_3 : (defScope s_pflag_table).names.lookup ("byte" : Str) = some NameKind.local := by decide +kernel
theorem v_pflag_table_4 : (defScope s_pflag_table).names.lookup ("half" : Str) = some NameKind.local := by decide +kernel
theorem g_pflag_table_ALL_CELLS (L a : Addr) (cd : Value) : (PyProof.Rows.envOfC "flag_table" (defScope s_pflag_table) L a cd).kindOf ("ALL_CELLS" : Str) = some NameKind.globalImplicit := rfl
theorem g_pflag_table_range (L a : Addr) (cd : Value) : (PyProof.Rows.envOfC "flag_table" (defScope s_pflag_table) L a cd).kindOf ("range" : Str) = some NameKind.globalImplicit := rfl
theorem g_pflag_table_tuple (L a : Addr) (cd : Value) : (PyProof.Rows.envOfC "flag_table" (defScope s_pflag_table) L a cd).kindOf ("tuple" : Str) = some NameKind.globalImplicit := rfl
theorem ok_pflag_table {P : Program} {w : World} {K : PySem.W.Frag} {mg : Str → Option Value} {base : Heap} {f : Addr} {fd : FuncData} (F : Fun K "flag_table" "flag_table" s_pflag_table f fd) (B : Bn mg)    (c_ALL_CELLS : Cst K mg "ALL_CELLS" (.int 256)) :
    FnOk P w K mg base (L2N.CX P w) 2 f fd ["is_high", "good"] (spF K mg 2 [] f_pflag_table) := by
  refine fn_ok F sc_pflag_table (by decide) (by decide) fun cdv A outer s H E hr => ?_
  have nd := sc_pflag_table.nd
  have tk : L2N.Takes (cxOf (L2N.CX P w) P w K mg base ["is_high", "good", "found", "byte", "half"] "flag_table" (defScope s_pflag_table) f cdv A outer s H E) (fun cls d _ H => E cls d H) := L2N.takes_of rfl rfl rfl rfl
  have pn : PassesOwn (model P w) (cxOf (L2N.CX P w) P w K mg base ["is_high", "good", "found", "byte", "half"] "flag_table" (defScope s_pflag_table) f cdv A outer s H E).A (cxOf (L2N.CX P w) P w K mg base ["is_high", "good", "found", "byte", "half"] "flag_table" (defScope s_pflag_table) f cdv A outer s H E).env (cxOf (L2N.CX P w) P w K mg base ["is_high", "good", "found", "byte", "half"] "flag_table" (defScope s_pflag_table) f cdv A outer s H E).xe := passes_of rfl
  unfold m_pflag_table
  exact mss_cons (ms_setO (i := 2) nd rfl (.inl v_pflag_table_2) (mo_lst (ma_nil))) (mss_cons (ms_for pn rfl (mi_r1 B.range (ma_cons (mf_con c_ALL_CELLS (hg := (g_pflag_table_ALL_CELLS _ _ _))) (ma_nil)) (hg := (g_pflag_table_range _ _ _))) (mg_name (i := 3) nd rfl (.inl v_pflag_table_3)) (mss_cons (ms_set (i := 4) nd rfl (.inl v_pflag_table_4) (me_if (mt_val (me_var (i := 0) rfl (.inl v_pflag_table_0))) (me_div (me_var (i := 3) rfl (.inl v_pflag_table_3)) (me_int)) (me_mod (me_var (i := 3) rfl (.inl v_pflag_table_3)) (me_int)))) (mss_one (ms_expr (me_lm1 ls_append PySem.F.slot_list_append PySem.F.type_list_append mt_append (i := 2) rfl (.inl v_pflag_table_2) (ma_cons (me_if (mt_cmp op_inM os_in (me_var (i := 4) rfl (.inl v_pflag_table_4)) (me_var (i := 1) rfl (.inl v_pflag_table_1)) rfl) (me_int) (me_int)) (ma_nil))))))) (mss_one (ms_ret (mb_tuple B.tuple (ma_cons (me_var (i := 2) rfl (.inl v_pflag_table_2)) (ma_nil)) (hg := (g_pflag_table_tuple _ _ _))))))

abbrev s_plook_tables : Stmt := top 30
theorem sc_plook_tables : FnScope ["found", "is_high", "good", "byte"] [] (defScope s_plook_tables) := ⟨rfl, rfl, rfl, by decide +kernel, rfl, by decide +kernel, by decide +kernel⟩
theorem v_plook_tables_0 : (defScope s_plook_tables).names.lookup ("found" : Str) = some NameKind.local := by decide +kernel
theorem v_plook_tables_1 : (defScope s_plook_tables).names.lookup ("is_high" : Str) = some NameKind.local := by decide +kernel
theorem v_plook_tables_2 : (defScope s_plook_tables).names.lookup ("good" : Str) = some NameKind.local := by decide +kernel
theorem g_plook_tables_SIGNS (L a : Addr) (cd : Value) : (PyProof.Rows.envOfC "look_tables" (defScope s_plook_tables) L a cd).kindOf ("SIGNS" : Str) = some NameKind.globalImplicit := rfl
theorem g_plook_tables_FIGURES (L a : Addr) (cd : Value) : (PyProof.Rows.envOfC "look_tables" (defScope s_plook_tables) L a cd).kindOf ("FIGURES" : Str) = some NameKind.globalImplicit := rfl
theorem g_plook_tables_flag_table (L a : Addr) (cd : Value) : (PyProof.Rows.envOfC "look_tables" (defScope s_plook_tables) L a cd).kindOf ("flag_table" : Str) = some NameKind.globalImplicit := rfl
theorem g_plook_tables_ALL_CELLS (L a : Addr) (cd : Value) : (PyProof.Rows.envOfC "look_tables" (defScope s_plook_tables) L a cd).kindOf ("ALL_CELLS" : Str) = some NameKind.globalImplicit := rfl
theorem g_plook_tables_range (L a : Addr) (cd : Value) : (PyProof.Rows.envOfC "look_tables" (defScope s_plook_tables) L a cd).kindOf ("range" : Str) = some NameKind.globalImplicit := rfl
theorem g_plook_tables_tuple (L a : Addr) (cd : Value) : (PyProof.Rows.envOfC "look_tables" (defScope s_plook_tables) L a cd).kindOf ("tuple" : Str) = some NameKind.globalImplicit := rfl
theorem ok_plook_tables {P : Program} {w : World} {K : PySem.W.Frag} {mg : Str → Option Value} {base : Heap} {f : Addr} {fd : FuncData} (F : Fun K "look_tables" "look_tables" s_plook_tables f fd) (B : Bn mg) (h_pflag_table : Fd P w K mg base "flag_table" 2 ["is_high", "good"] [] f_pflag_table)   (c_SIGNS : Cst K mg "SIGNS" (.tup [(.int 10), (.int 11), (.int 12), (.int 13), (.int 14), (.int 15)])) (c_FIGURES : Cst K mg "FIGURES" (.tup [(.int 0), (.int 1), (.int 2), (.int 3), (.int 4), (.int 5), (.int 6), (.int 7), (.int 8), (.int 9)])) (c_ALL_CELLS : Cst K mg "ALL_CELLS" (.int 256)) :
    FnOk P w K mg base (L2N.CX P w) 4 f fd [] (spF K mg 0 [] f_plook_tables) := by
  refine fn_ok F sc_plook_tables (by decide) (by decide) fun cdv A outer s H E hr => ?_
  have nd := sc_plook_tables.nd
  have tk : L2N.Takes (cxOf (L2N.CX P w) P w K mg base ["found", "is_high", "good", "byte"] "look_tables" (defScope s_plook_tables) f cdv A outer s H E) (fun cls d _ H => E cls d H) := L2N.takes_of rfl rfl rfl rfl
  have pn : PassesOwn (model P w) (cxOf (L2N.CX P w) P w K mg base ["found", "is_high", "good", "byte"] "look_tables" (defScope s_plook_tables) f cdv A outer s H E).A (cxOf (L2N.CX P w) P w K mg base ["found", "is_high", "good", "byte"] "look_tables" (defScope s_plook_tables) f cdv A outer s H E).env (cxOf (L2N.CX P w) P w K mg base ["found", "is_high", "good", "byte"] "look_tables" (defScope s_plook_tables) f cdv A outer s H E).xe := passes_of rfl
  unfold m_plook_tables
  exact mss_cons (ms_setO (i := 0) nd rfl (.inl v_plook_tables_0) (mo_lst (ma_nil))) (mss_cons (ms_for pn rfl (mi_val (me_tup (ma_cons (me_bl) (ma_cons (me_bl) (ma_nil))))) (mg_name (i := 1) nd rfl (.inl v_plook_tables_1)) (mss_one (ms_for pn rfl (mi_val (me_tup (ma_cons (mf_con c_FIGURES (hg := (g_plook_tables_FIGURES _ _ _))) (ma_cons (mf_con c_SIGNS (hg := (g_plook_tables_SIGNS _ _ _))) (ma_cons (me_tup (ma_cons (me_int) (ma_nil))) (ma_cons (me_tup (ma_cons (me_int) (ma_nil))) (ma_nil))))))) (mg_name (i := 2) nd rfl (.inl v_plook_tables_2)) (mss_one (ms_expr (me_lm1 ls_append PySem.F.slot_list_append PySem.F.type_list_append mt_append (i := 0) rfl (.inl v_plook_tables_0) (ma_cons (me_fz (mf_call h_pflag_table hr (by decide) tk (ma_cons (me_var (i := 1) rfl (.inl v_plook_tables_1)) (ma_cons (me_var (i := 2) rfl (.inl v_plook_tables_2)) (ma_nil))) (lng_cons (lng_cons lng_nil)) (hg := (g_plook_tables_flag_table _ _ _)))) (ma_nil)))))))) (mss_one (ms_ret (mb_tuple B.tuple (ma_cons (me_add (me_var (i := 0) rfl (.inl v_plook_tables_0)) (me_lst (ma_cons (mb_tuple B.tuple (ma_cons (me_fz (mo_lc (own := [("byte", 3)]) (g := .nm 3) rfl nd (mi_r1 B.range (ma_cons (mf_con c_ALL_CELLS (hg := (g_plook_tables_ALL_CELLS _ _ _))) (ma_nil)) (hg := (g_plook_tables_range _ _ _))) (blkOk_at (N' := ["found", "is_high", "good", "byte"]) (sc' := defScope s_plook_tables) rfl rfl (by decide +kernel)) (fun _ _ _ _ _ => pg_name (i := 3) nd rfl (Or.inl rfl)) (fun _ _ _ _ _ => mts_nil) (fun _ _ _ _ _ => me_sub (me_int) (me_var (i := 3) rfl (.inl rfl))) (hbs := hbs_of rfl))) (ma_nil)) (hg := (g_plook_tables_tuple _ _ _))) (ma_nil)))) (ma_nil)) (hg := (g_plook_tables_tuple _ _ _))))))

abbrev s_plook_rows : Stmt := top 32
theorem sc_plook_rows : FnScope ["place", "wanted", "table", "rows"] ["place", "wanted"] (defScope s_plook_rows) := ⟨rfl, rfl, rfl, by decide +kernel, rfl, by decide +kernel, by decide +kernel⟩
theorem v_plook_rows_0 : (defScope s_plook_rows).names.lookup ("place" : Str) = some NameKind.local := by decide +kernel
theorem v_plook_rows_1 : (defScope s_plook_rows).names.lookup ("wanted" : Str) = some NameKind.local := by decide +kernel
theorem v_plook_rows_2 : (defScope s_plook_rows).names.lookup ("table" : Str) = some NameKind.local := by decide +kernel
theorem v_plook_rows_3 : (defScope s_plook_rows).names.lookup ("rows" : Str) = some NameKind.local := by decide +kernel
theorem g_plook_rows_TURNED (L a : Addr) (cd : Value) : (PyProof.Rows.envOfC "look_rows" (defScope s_plook_rows) L a cd).kindOf ("TURNED" : Str) = some NameKind.globalImplicit := rfl
theorem g_plook_rows_OTHER (L a : Addr) (cd : Value) : (PyProof.Rows.envOfC "look_rows" (defScope s_plook_rows) L a cd).kindOf ("OTHER" : Str) = some NameKind.globalImplicit := rfl
theorem g_plook_rows_FLAG (L a : Addr) (cd : Value) : (PyProof.Rows.envOfC "look_rows" (defScope s_plook_rows) L a cd).kindOf ("FLAG" : Str) = some NameKind.globalImplicit := rfl
theorem g_plook_rows_BLANK (L a : Addr) (cd : Value) : (PyProof.Rows.envOfC "look_rows" (defScope s_plook_rows) L a cd).kindOf ("BLANK" : Str) = some NameKind.globalImplicit := rfl
theorem g_plook_rows_ANSWER (L a : Addr) (cd : Value) : (PyProof.Rows.envOfC "look_rows" (defScope s_plook_rows) L a cd).kindOf ("ANSWER" : Str) = some NameKind.globalImplicit := rfl
theorem ok_plook_rows {P : Program} {w : World} {K : PySem.W.Frag} {mg : Str → Option Value} {base : Heap} {f : Addr} {fd : FuncData} (F : Fun K "look_rows" "look_rows" s_plook_rows f fd) (B : Bn mg)    (c_TURNED : Cst K mg "TURNED" (.int 8)) (c_OTHER : Cst K mg "OTHER" (.int 254)) (c_FLAG : Cst K mg "FLAG" (.int 253)) (c_BLANK : Cst K mg "BLANK" (.int 255)) (c_ANSWER : Cst K mg "ANSWER" (.int 252)) :
    FnOk P w K mg base (L2N.CX P w) 2 f fd ["place", "wanted"] (spF K mg 2 [] f_plook_rows) := by
  refine fn_ok F sc_plook_rows (by decide) (by decide) fun cdv A outer s H E hr => ?_
  have nd := sc_plook_rows.nd
  have tk : L2N.Takes (cxOf (L2N.CX P w) P w K mg base ["place", "wanted", "table", "rows"] "look_rows" (defScope s_plook_rows) f cdv A outer s H E) (fun cls d _ H => E cls d H) := L2N.takes_of rfl rfl rfl rfl
  have pn : PassesOwn (model P w) (cxOf (L2N.CX P w) P w K mg base ["place", "wanted", "table", "rows"] "look_rows" (defScope s_plook_rows) f cdv A outer s H E).A (cxOf (L2N.CX P w) P w K mg base ["place", "wanted", "table", "rows"] "look_rows" (defScope s_plook_rows) f cdv A outer s H E).env (cxOf (L2N.CX P w) P w K mg base ["place", "wanted", "table", "rows"] "look_rows" (defScope s_plook_rows) f cdv A outer s H E).xe := passes_of rfl
  unfold m_plook_rows
  exact mss_cons (ms_set (i := 2) nd rfl (.inl v_plook_rows_2) (me_add (me_var (i := 1) rfl (.inl v_plook_rows_1)) (me_mul (me_int) (me_mod (me_var (i := 0) rfl (.inl v_plook_rows_0)) (me_int))))) (mss_cons (ms_set (i := 3) nd rfl (.inl v_plook_rows_3) (me_lst (ma_cons (me_tup (ma_cons (me_str) (ma_cons (mf_con c_FLAG (hg := (g_plook_rows_FLAG _ _ _))) (ma_cons (me_div (me_var (i := 0) rfl (.inl v_plook_rows_0)) (me_int)) (ma_nil))))) (ma_cons (me_tup (ma_cons (me_str) (ma_cons (mf_con c_FLAG (hg := (g_plook_rows_FLAG _ _ _))) (ma_cons (me_var (i := 2) rfl (.inl v_plook_rows_2)) (ma_nil))))) (ma_cons (me_tup (ma_cons (me_str) (ma_cons (mf_con c_OTHER (hg := (g_plook_rows_OTHER _ _ _))) (ma_cons (mf_con c_FLAG (hg := (g_plook_rows_FLAG _ _ _))) (ma_nil))))) (ma_cons (me_tup (ma_cons (me_str) (ma_cons (mf_con c_OTHER (hg := (g_plook_rows_OTHER _ _ _))) (ma_cons (mf_con c_TURNED (hg := (g_plook_rows_TURNED _ _ _))) (ma_nil))))) (ma_nil))))))) (mss_cons (ms_set (i := 3) nd rfl (.inl v_plook_rows_3) (me_add (me_var (i := 3) rfl (.inl v_plook_rows_3)) (me_lst (ma_cons (me_tup (ma_cons (me_str) (ma_cons (mf_con c_ANSWER (hg := (g_plook_rows_ANSWER _ _ _))) (ma_cons (mf_con c_OTHER (hg := (g_plook_rows_OTHER _ _ _))) (ma_nil))))) (ma_cons (me_tup (ma_cons (me_str) (ma_cons (mf_con c_BLANK (hg := (g_plook_rows_BLANK _ _ _))) (ma_cons (me_add (me_var (i := 0) rfl (.inl v_plook_rows_0)) (me_int)) (ma_nil))))) (ma_cons (me_tup (ma_cons (me_str) (ma_cons (mf_con c_BLANK (hg := (g_plook_rows_BLANK _ _ _))) (ma_cons (mf_con c_FLAG (hg := (g_plook_rows_FLAG _ _ _))) (ma_nil))))) (ma_nil))))))) (mss_one (ms_ret (me_add (me_var (i := 3) rfl (.inl v_plook_rows_3)) (me_lst (ma_cons (me_tup (ma_cons (me_str) (ma_cons (mf_con c_ANSWER (hg := (g_plook_rows_ANSWER _ _ _))) (ma_cons (mf_con c_BLANK (hg := (g_plook_rows_BLANK _ _ _))) (ma_nil))))) (ma_nil))))))))

abbrev s_pcheck_rows : Stmt := top 33
theorem sc_pcheck_rows : FnScope ["form", "looks", "rows", "place"] ["form"] (defScope s_pcheck_rows) := ⟨rfl, rfl, rfl, by decide +kernel, rfl, by decide +kernel, by decide +kernel⟩
theorem v_pcheck_rows_0 : (defScope s_pcheck_rows).names.lookup ("form" : Str) = some NameKind.local := by decide +kernel
theorem v_pcheck_rows_1 : (defScope s_pcheck_rows).names.lookup ("looks" : Str) = some NameKind.local := by decide +kernel
theorem v_pcheck_rows_2 : (defScope s_pcheck_rows).names.lookup ("rows" : Str) = some NameKind.local := by decide +kernel
theorem v_pcheck_rows_3 : (defScope s_pcheck_rows).names.lookup ("place" : Str) = some NameKind.local := by decide +kernel
theorem g_pcheck_rows_half_looks (L a : Addr) (cd : Value) : (PyProof.Rows.envOfC "check_rows" (defScope s_pcheck_rows) L a cd).kindOf ("half_looks" : Str) = some NameKind.globalImplicit := rfl
theorem g_pcheck_rows_ANSWER (L a : Addr) (cd : Value) : (PyProof.Rows.envOfC "check_rows" (defScope s_pcheck_rows) L a cd).kindOf ("ANSWER" : Str) = some NameKind.globalImplicit := rfl
theorem g_pcheck_rows_len (L a : Addr) (cd : Value) : (PyProof.Rows.envOfC "check_rows" (defScope s_pcheck_rows) L a cd).kindOf ("len" : Str) = some NameKind.globalImplicit := rfl
theorem g_pcheck_rows_range (L a : Addr) (cd : Value) : (PyProof.Rows.envOfC "check_rows" (defScope s_pcheck_rows) L a cd).kindOf ("range" : Str) = some NameKind.globalImplicit := rfl
theorem g_pcheck_rows_look_rows (L a : Addr) (cd : Value) : (PyProof.Rows.envOfC "check_rows" (defScope s_pcheck_rows) L a cd).kindOf ("look_rows" : Str) = some NameKind.globalImplicit := rfl
theorem g_pcheck_rows_tuple (L a : Addr) (cd : Value) : (PyProof.Rows.envOfC "check_rows" (defScope s_pcheck_rows) L a cd).kindOf ("tuple" : Str) = some NameKind.globalImplicit := rfl
theorem g_pcheck_rows_look_tables (L a : Addr) (cd : Value) : (PyProof.Rows.envOfC "check_rows" (defScope s_pcheck_rows) L a cd).kindOf ("look_tables" : Str) = some NameKind.globalImplicit := rfl
theorem ok_pcheck_rows {P : Program} {w : World} {K : PySem.W.Frag} {mg : Str → Option Value} {base : Heap} {f : Addr} {fd : FuncData} (F : Fun K "check_rows" "check_rows" s_pcheck_rows f fd) (B : Bn mg) (h_phalf_looks : Fd P w K mg base "half_looks" 2 ["form"] [] f_phalf_looks) (h_plook_rows : Fd P w K mg base "look_rows" 2 ["place", "wanted"] [] f_plook_rows) (h_plook_tables : Fd P w K mg base "look_tables" 4 [] [] f_plook_tables)   (c_ANSWER : Cst K mg "ANSWER" (.int 252)) :
    FnOk P w K mg base (L2N.CX P w) 6 f fd ["form"] (spF K mg 1 [] f_pcheck_rows) := by
  refine fn_ok F sc_pcheck_rows (by decide) (by decide) fun cdv A outer s H E hr => ?_
  have nd := sc_pcheck_rows.nd
  have tk : L2N.Takes (cxOf (L2N.CX P w) P w K mg base ["form", "looks", "rows", "place"] "check_rows" (defScope s_pcheck_rows) f cdv A outer s H E) (fun cls d _ H => E cls d H) := L2N.takes_of rfl rfl rfl rfl
  have pn : PassesOwn (model P w) (cxOf (L2N.CX P w) P w K mg base ["form", "looks", "rows", "place"] "check_rows" (defScope s_pcheck_rows) f cdv A outer s H E).A (cxOf (L2N.CX P w) P w K mg base ["form", "looks", "rows", "place"] "check_rows" (defScope s_pcheck_rows) f cdv A outer s H E).env (cxOf (L2N.CX P w) P w K mg base ["form", "looks", "rows", "place"] "check_rows" (defScope s_pcheck_rows) f cdv A outer s H E).xe := passes_of rfl
  unfold m_pcheck_rows
  exact mss_cons (ms_set (i := 1) nd rfl (.inl v_pcheck_rows_1) (me_fz (mf_call h_phalf_looks hr (by decide) tk (ma_cons (me_var (i := 0) rfl (.inl v_pcheck_rows_0)) (ma_nil)) (lng_cons lng_nil) (hg := (g_pcheck_rows_half_looks _ _ _))))) (mss_cons (ms_setO (i := 2) nd rfl (.inl v_pcheck_rows_2) (mo_lst (ma_cons (me_tup (ma_cons (me_str) (ma_cons (mf_con c_ANSWER (hg := (g_pcheck_rows_ANSWER _ _ _))) (ma_cons (me_int) (ma_nil))))) (ma_nil)))) (mss_cons (ms_for pn rfl (mi_r3 B.range (ma_cons (me_sub (mb_len B.len (ma_cons (me_var (i := 1) rfl (.inl v_pcheck_rows_1)) (ma_nil)) (hg := (g_pcheck_rows_len _ _ _))) (me_int)) (ma_cons (me_neg (me_int)) (ma_cons (me_neg (me_int)) (ma_nil)))) (hg := (g_pcheck_rows_range _ _ _))) (mg_name (i := 3) nd rfl (.inl v_pcheck_rows_3)) (mss_one (ms_expr (me_lm1 ls_extend PySem.F.slot_list_extend PySem.F.type_list_extend mt_extend (i := 2) rfl (.inl v_pcheck_rows_2) (ma_cons (me_fz (mf_call h_plook_rows hr (by decide) tk (ma_cons (me_var (i := 3) rfl (.inl v_pcheck_rows_3)) (ma_cons (me_ix (me_var (i := 1) rfl (.inl v_pcheck_rows_1)) (me_var (i := 3) rfl (.inl v_pcheck_rows_3))) (ma_nil))) (lng_cons (lng_cons lng_nil)) (hg := (g_pcheck_rows_look_rows _ _ _)))) (ma_nil)))))) (mss_one (ms_ret (me_tup (ma_cons (me_fz (mf_callZ h_plook_tables hr (by decide) (hg := (g_pcheck_rows_look_tables _ _ _)))) (ma_cons (mb_tuple B.tuple (ma_cons (me_add (me_var (i := 2) rfl (.inl v_pcheck_rows_2)) (me_lst (ma_cons (me_tup (ma_cons (me_str) (ma_cons (me_int) (ma_cons (mf_con c_ANSWER (hg := (g_pcheck_rows_ANSWER _ _ _))) (ma_nil))))) (ma_cons (me_tup (ma_cons (me_str) (ma_cons (me_int) (ma_nil)))) (ma_nil))))) (ma_nil)) (hg := (g_pcheck_rows_tuple _ _ _))) (ma_nil))))))))

abbrev s_lcell : Stmt := top 35
theorem sc_lcell : FnScope ["_law_script", "_law_k"] ["_law_script", "_law_k"] (defScope s_lcell) := ⟨rfl, rfl, rfl, by decide +kernel, rfl, by decide +kernel, by decide +kernel⟩
theorem v_lcell_0 : (defScope s_lcell).names.lookup ("_law_script" : Str) = some NameKind.local := by decide +kernel
theorem v_lcell_1 : (defScope s_lcell).names.lookup ("_law_k" : Str) = some NameKind.local := by decide +kernel
theorem g_lcell_len (L a : Addr) (cd : Value) : (PyProof.Rows.envOfC "_law_cell" (defScope s_lcell) L a cd).kindOf ("len" : Str) = some NameKind.globalImplicit := rfl
theorem ok_lcell {P : Program} {w : World} {K : PySem.W.Frag} {mg : Str → Option Value} {base : Heap} {f : Addr} {fd : FuncData} (F : Fun K "_law_cell" "_law_cell" s_lcell f fd) (B : Bn mg)     :
    FnOk P w K mg base (L2N.CX P w) 2 f fd ["_law_script", "_law_k"] (spF K mg 2 [] f_lcell) := by
  refine fn_ok F sc_lcell (by decide) (by decide) fun cdv A outer s H E hr => ?_
  have nd := sc_lcell.nd
  have tk : L2N.Takes (cxOf (L2N.CX P w) P w K mg base ["_law_script", "_law_k"] "_law_cell" (defScope s_lcell) f cdv A outer s H E) (fun cls d _ H => E cls d H) := L2N.takes_of rfl rfl rfl rfl
  have pn : PassesOwn (model P w) (cxOf (L2N.CX P w) P w K mg base ["_law_script", "_law_k"] "_law_cell" (defScope s_lcell) f cdv A outer s H E).A (cxOf (L2N.CX P w) P w K mg base ["_law_script", "_law_k"] "_law_cell" (defScope s_lcell) f cdv A outer s H E).env (cxOf (L2N.CX P w) P w K mg base ["_law_script", "_law_k"] "_law_cell" (defScope s_lcell) f cdv A outer s H E).xe := passes_of rfl
  unfold m_lcell
  exact mss_cons (ms_if (mt_cmp op_lt os_lt (me_var (i := 1) rfl (.inl v_lcell_1)) (mb_len B.len (ma_cons (me_var (i := 0) rfl (.inl v_lcell_0)) (ma_nil)) (hg := (g_lcell_len _ _ _))) (nomark _)) (mss_one (ms_ret (me_ix (me_var (i := 0) rfl (.inl v_lcell_0)) (me_var (i := 1) rfl (.inl v_lcell_1))))) (mss_nil)) (mss_cons (ms_if (mt_cmp (op_eqM hr.units) os_eq (mb_len B.len (ma_cons (me_var (i := 0) rfl (.inl v_lcell_0)) (ma_nil)) (hg := (g_lcell_len _ _ _))) (me_int) (nomark _)) (mss_one (ms_ret (me_mul (me_int) (me_add (me_var (i := 1) rfl (.inl v_lcell_1)) (me_int))))) (mss_nil)) (mss_one (ms_ret (me_add (me_ix (me_var (i := 0) rfl (.inl v_lcell_0)) (me_mod (me_var (i := 1) rfl (.inl v_lcell_1)) (mb_len B.len (ma_cons (me_var (i := 0) rfl (.inl v_lcell_0)) (ma_nil)) (hg := (g_lcell_len _ _ _))))) (me_mul (me_int) (me_var (i := 1) rfl (.inl v_lcell_1)))))))

abbrev s_lends : Stmt := top 40
theorem sc_lends : FnScope ["_law_form_here", "_law_ten"] ["_law_form_here"] (defScope s_lends) := ⟨rfl, rfl, rfl, by decide +kernel, rfl, by decide +kernel, by decide +kernel⟩
theorem v_lends_0 : (defScope s_lends).names.lookup ("_law_form_here" : Str) = some NameKind.local := by decide +kernel
theorem v_lends_1 : (defScope s_lends).names.lookup ("_law_ten" : Str) = some NameKind.local := by decide +kernel
theorem g_lends_law_power (L a : Addr) (cd : Value) : (PyProof.Rows.envOfC "_law_ends" (defScope s_lends) L a cd).kindOf ("_law_power" : Str) = some NameKind.globalImplicit := rfl
theorem ok_lends {P : Program} {w : World} {K : PySem.W.Frag} {mg : Str → Option Value} {base : Heap} {f : Addr} {fd : FuncData} (F : Fun K "_law_ends" "_law_ends" s_lends f fd) (B : Bn mg) (h_lpower : Fd P w K mg base "_law_power" 2 ["_law_base", "_law_many"] [] f_lpower)    :
    FnOk P w K mg base (L2N.CX P w) 4 f fd ["_law_form_here"] (spF K mg 1 [] f_lends) := by
  refine fn_ok F sc_lends (by decide) (by decide) fun cdv A outer s H E hr => ?_
  have nd := sc_lends.nd
  have tk : L2N.Takes (cxOf (L2N.CX P w) P w K mg base ["_law_form_here", "_law_ten"] "_law_ends" (defScope s_lends) f cdv A outer s H E) (fun cls d _ H => E cls d H) := L2N.takes_of rfl rfl rfl rfl
  have pn : PassesOwn (model P w) (cxOf (L2N.CX P w) P w K mg base ["_law_form_here", "_law_ten"] "_law_ends" (defScope s_lends) f cdv A outer s H E).A (cxOf (L2N.CX P w) P w K mg base ["_law_form_here", "_law_ten"] "_law_ends" (defScope s_lends) f cdv A outer s H E).env (cxOf (L2N.CX P w) P w K mg base ["_law_form_here", "_law_ten"] "_law_ends" (defScope s_lends) f cdv A outer s H E).xe := passes_of rfl
  unfold m_lends
  exact mss_cons (ms_set (i := 1) nd rfl (.inl v_lends_1) (me_fz (mf_call h_lpower hr (by decide) tk (ma_cons (me_int) (ma_cons (me_ix (me_var (i := 0) rfl (.inl v_lends_0)) (me_int)) (ma_nil))) (lng_cons (lng_cons lng_nil)) (hg := (g_lends_law_power _ _ _))))) (mss_cons (ms_if (mt_cmp (op_eqM hr.units) os_eq (me_ix (me_var (i := 0) rfl (.inl v_lends_0)) (me_int)) (me_str) (nomark _)) (mss_one (ms_ret (me_tup (ma_cons (me_int) (ma_cons (me_sub (me_var (i := 1) rfl (.inl v_lends_1)) (me_int)) (ma_nil)))))) (mss_nil)) (mss_cons (ms_if (mt_cmp (op_eqM hr.units) os_eq (me_ix (me_var (i := 0) rfl (.inl v_lends_0)) (me_int)) (me_str) (nomark _)) (mss_one (ms_ret (me_tup (ma_cons (me_sub (me_int) (me_var (i := 1) rfl (.inl v_lends_1))) (ma_cons (me_sub (me_var (i := 1) rfl (.inl v_lends_1)) (me_int)) (ma_nil)))))) (mss_nil)) (mss_one (ms_ret (me_tup (ma_cons (me_sub (me_int) (me_div (me_var (i := 1) rfl (.inl v_lends_1)) (me_int))) (ma_cons (me_sub (me_div (me_var (i := 1) rfl (.inl v_lends_1)) (me_int)) (me_int)) (ma_nil))))))))

abbrev s_lnumber : Stmt := top 45
theorem sc_lnumber : FnScope ["_law_form_here", "_law_way", "_law_far", "_law_size", "_law_some", "_law_number_here", "_law_low", "_law_high"] ["_law_form_here", "_law_way", "_law_far"] (defScope s_lnumber) := ⟨rfl, rfl, rfl, by decide +kernel, rfl, by decide +kernel, by decide +kernel⟩
theorem v_lnumber_0 : (defScope s_lnumber).names.lookup ("_law_form_here" : Str) = some NameKind.local := by decide +kernel
theorem v_lnumber_1 : (defScope s_lnumber).names.lookup ("_law_way" : Str) = some NameKind.local := by decide +kernel
theorem v_lnumber_2 : (defScope s_lnumber).names.lookup ("_law_far" : Str) = some NameKind.local := by decide +kernel
theorem v_lnumber_3 : (defScope s_lnumber).names.lookup ("_law_size" : Str) = some NameKind.local := by decide +kernel
theorem v_lnumber_4 : (defScope s_lnumber).names.lookup ("_law_some" : Str) = some NameKind.local := by decide +kernel
theorem v_lnumber_5 : (defScope s_lnumber).names.lookup ("_law_number_here" : Str) = some NameKind.local := by decide +kernel
theorem v_lnumber_6 : (defScope s_lnumber).names.lookup ("_law_low" : Str) = some NameKind.local := by decide +kernel
theorem v_lnumber_7 : (defScope s_lnumber).names.lookup ("_law_high" : Str) = some NameKind.local := by decide +kernel
theorem g_lnumber_law_ends (L a : Addr) (cd : Value) : (PyProof.Rows.envOfC "_law_number" (defScope s_lnumber) L a cd).kindOf ("_law_ends" : Str) = some NameKind.globalImplicit := rfl
theorem g_lnumber_law_power (L a : Addr) (cd : Value) : (PyProof.Rows.envOfC "_law_number" (defScope s_lnumber) L a cd).kindOf ("_law_power" : Str) = some NameKind.globalImplicit := rfl
theorem g_lnumber_min (L a : Addr) (cd : Value) : (PyProof.Rows.envOfC "_law_number" (defScope s_lnumber) L a cd).kindOf ("min" : Str) = some NameKind.globalImplicit := rfl
theorem g_lnumber_max (L a : Addr) (cd : Value) : (PyProof.Rows.envOfC "_law_number" (defScope s_lnumber) L a cd).kindOf ("max" : Str) = some NameKind.globalImplicit := rfl
theorem ok_lnumber {P : Program} {w : World} {K : PySem.W.Frag} {mg : Str → Option Value} {base : Heap} {f : Addr} {fd : FuncData} (F : Fun K "_law_number" "_law_number" s_lnumber f fd) (B : Bn mg) (h_lends : Fd P w K mg base "_law_ends" 4 ["_law_form_here"] [] f_lends) (h_lpower : Fd P w K mg base "_law_power" 2 ["_law_base", "_law_many"] [] f_lpower)    :
    FnOk P w K mg base (L2N.CX P w) 6 f fd ["_law_form_here", "_law_way", "_law_far"] (spF K mg 3 [] f_lnumber) := by
  refine fn_ok F sc_lnumber (by decide) (by decide) fun cdv A outer s H E hr => ?_
  have nd := sc_lnumber.nd
  have tk : L2N.Takes (cxOf (L2N.CX P w) P w K mg base ["_law_form_here", "_law_way", "_law_far", "_law_size", "_law_some", "_law_number_here", "_law_low", "_law_high"] "_law_number" (defScope s_lnumber) f cdv A outer s H E) (fun cls d _ H => E cls d H) := L2N.takes_of rfl rfl rfl rfl
  have pn : PassesOwn (model P w) (cxOf (L2N.CX P w) P w K mg base ["_law_form_here", "_law_way", "_law_far", "_law_size", "_law_some", "_law_number_here", "_law_low", "_law_high"] "_law_number" (defScope s_lnumber) f cdv A outer s H E).A (cxOf (L2N.CX P w) P w K mg base ["_law_form_here", "_law_way", "_law_far", "_law_size", "_law_some", "_law_number_here", "_law_low", "_law_high"] "_law_number" (defScope s_lnumber) f cdv A outer s H E).env (cxOf (L2N.CX P w) P w K mg base ["_law_form_here", "_law_way", "_law_far", "_law_size", "_law_some", "_law_number_here", "_law_low", "_law_high"] "_law_number" (defScope s_lnumber) f cdv A outer s H E).xe := passes_of rfl
  unfold m_lnumber
  exact mss_cons (ms_asg (me_fz (mf_call h_lends hr (by decide) tk (ma_cons (me_var (i := 0) rfl (.inl v_lnumber_0)) (ma_nil)) (lng_cons lng_nil) (hg := (g_lnumber_law_ends _ _ _)))) (mg_tup rfl (mgs_cons (mg_name (i := 6) nd rfl (.inl v_lnumber_6)) (mgs_cons (mg_name (i := 7) nd rfl (.inl v_lnumber_7)) (mgs_nil))))) (mss_cons (ms_if (mt_cmp op_gt os_gt (me_var (i := 1) rfl (.inl v_lnumber_1)) (me_int) (nomark _)) (mss_one (ms_ret (me_add (me_var (i := 6) rfl (.inl v_lnumber_6)) (me_mod (me_var (i := 2) rfl (.inl v_lnumber_2)) (me_add (me_sub (me_var (i := 7) rfl (.inl v_lnumber_7)) (me_var (i := 6) rfl (.inl v_lnumber_6))) (me_int)))))) (mss_nil)) (mss_cons (ms_set (i := 3) nd rfl (.inl v_lnumber_3) (me_fz (mf_call h_lpower hr (by decide) tk (ma_cons (me_int) (ma_cons (me_mod (me_var (i := 2) rfl (.inl v_lnumber_2)) (me_ix (me_var (i := 0) rfl (.inl v_lnumber_0)) (me_int))) (ma_nil))) (lng_cons (lng_cons lng_nil)) (hg := (g_lnumber_law_power _ _ _))))) (mss_cons (ms_setO (i := 4) nd rfl (.inl v_lnumber_4) (mo_lst (ma_cons (me_int) (ma_cons (me_int) (ma_cons (me_var (i := 7) rfl (.inl v_lnumber_7)) (ma_cons (me_var (i := 6) rfl (.inl v_lnumber_6)) (ma_cons (me_var (i := 3) rfl (.inl v_lnumber_3)) (ma_cons (me_sub (me_var (i := 3) rfl (.inl v_lnumber_3)) (me_int)) (ma_cons (me_mul (me_int) (me_var (i := 3) rfl (.inl v_lnumber_3))) (ma_cons (me_mul (me_int) (me_var (i := 3) rfl (.inl v_lnumber_3))) (ma_cons (me_add (me_var (i := 3) rfl (.inl v_lnumber_3)) (me_int)) (ma_nil)))))))))))) (mss_cons (ms_expr (me_lm1 ls_append PySem.F.slot_list_append PySem.F.type_list_append mt_append (i := 4) rfl (.inl v_lnumber_4) (ma_cons (me_mod (me_div (me_var (i := 2) rfl (.inl v_lnumber_2)) (me_int)) (me_mul (me_int) (me_var (i := 3) rfl (.inl v_lnumber_3)))) (ma_nil)))) (mss_cons (ms_set (i := 5) nd rfl (.inl v_lnumber_5) (me_ixV (i := 4) rfl (.inl v_lnumber_4) (me_var (i := 1) rfl (.inl v_lnumber_1)))) (mss_cons (ms_if (PW.pt (mw_and (mt_cmp op_lt os_lt (me_var (i := 6) rfl (.inl v_lnumber_6)) (me_int) (nomark _)) (mw_one_and (mt_cmp (op_eqM hr.units) os_eq (me_mod (me_div (me_var (i := 2) rfl (.inl v_lnumber_2)) (me_int)) (me_int)) (me_int) (nomark _))))) (mss_one (ms_set (i := 5) nd rfl (.inl v_lnumber_5) (me_sub (me_int) (me_var (i := 5) rfl (.inl v_lnumber_5))))) (mss_nil)) (mss_one (ms_ret (mb_max rfl B.max (ma_cons (me_var (i := 6) rfl (.inl v_lnumber_6)) (ma_cons (mb_min rfl B.min (ma_cons (me_var (i := 7) rfl (.inl v_lnumber_7)) (ma_cons (me_var (i := 5) rfl (.inl v_lnumber_5)) (ma_nil))) (hg := (g_lnumber_min _ _ _))) (ma_nil))) (hg := (g_lnumber_max _ _ _)))))))))))

abbrev s_phalves_of : Stmt := top 4
theorem sc_phalves_of : FnScope ["form", "many"] ["form"] (defScope s_phalves_of) := ⟨rfl, rfl, rfl, by decide +kernel, rfl, by decide +kernel, by decide +kernel⟩
theorem v_phalves_of_0 : (defScope s_phalves_of).names.lookup ("form" : Str) = some NameKind.local := by decide +kernel
theorem v_phalves_of_1 : (defScope s_phalves_of).names.lookup ("many" : Str) = some NameKind.local := by decide +kernel
theorem g_phalves_of_int (L a : Addr) (cd : Value) : (PyProof.Rows.envOfC "halves_of" (defScope s_phalves_of) L a cd).kindOf ("int" : Str) = some NameKind.globalImplicit := rfl
theorem ok_phalves_of {P : Program} {w : World} {K : PySem.W.Frag} {mg : Str → Option Value} {base : Heap} {f : Addr} {fd : FuncData} (F : Fun K "halves_of" "halves_of" s_phalves_of f fd) (B : Bn mg)     :
    FnOk P w K mg base (L2N.CX P w) 2 f fd ["form"] (spF K mg 1 [] f_phalves_of) := by
  refine fn_ok F sc_phalves_of (by decide) (by decide) fun cdv A outer s H E hr => ?_
  have nd := sc_phalves_of.nd
  have tk : L2N.Takes (cxOf (L2N.CX P w) P w K mg base ["form", "many"] "halves_of" (defScope s_phalves_of) f cdv A outer s H E) (fun cls d _ H => E cls d H) := L2N.takes_of rfl rfl rfl rfl
  have pn : PassesOwn (model P w) (cxOf (L2N.CX P w) P w K mg base ["form", "many"] "halves_of" (defScope s_phalves_of) f cdv A outer s H E).A (cxOf (L2N.CX P w) P w K mg base ["form", "many"] "halves_of" (defScope s_phalves_of) f cdv A outer s H E).env (cxOf (L2N.CX P w) P w K mg base ["form", "many"] "halves_of" (defScope s_phalves_of) f cdv A outer s H E).xe := passes_of rfl
  unfold m_phalves_of
  exact mss_cons (ms_set (i := 1) nd rfl (.inl v_phalves_of_1) (me_add (me_ix (me_var (i := 0) rfl (.inl v_phalves_of_0)) (me_int)) (mb_int B.int (ma_cons (me_cmp (op_eqM hr.units) os_eq (me_ix (me_var (i := 0) rfl (.inl v_phalves_of_0)) (me_int)) (me_str) (nomark _)) (ma_nil)) (hg := (g_phalves_of_int _ _ _))))) (mss_one (ms_ret (me_tup (ma_cons (me_add (me_var (i := 1) rfl (.inl v_phalves_of_1)) (me_mod (me_var (i := 1) rfl (.inl v_phalves_of_1)) (me_int))) (ma_cons (me_mod (me_var (i := 1) rfl (.inl v_phalves_of_1)) (me_int)) (ma_nil))))))

abbrev s_pduties : Stmt := top 12
theorem sc_pduties : FnScope ["form", "found"] ["form"] (defScope s_pduties) := ⟨rfl, rfl, rfl, by decide +kernel, rfl, by decide +kernel, by decide +kernel⟩
theorem v_pduties_0 : (defScope s_pduties).names.lookup ("form" : Str) = some NameKind.local := by decide +kernel
theorem v_pduties_1 : (defScope s_pduties).names.lookup ("found" : Str) = some NameKind.local := by decide +kernel
theorem g_pduties_halves_of (L a : Addr) (cd : Value) : (PyProof.Rows.envOfC "duties" (defScope s_pduties) L a cd).kindOf ("halves_of" : Str) = some NameKind.globalImplicit := rfl
theorem g_pduties_int (L a : Addr) (cd : Value) : (PyProof.Rows.envOfC "duties" (defScope s_pduties) L a cd).kindOf ("int" : Str) = some NameKind.globalImplicit := rfl
theorem ok_pduties {P : Program} {w : World} {K : PySem.W.Frag} {mg : Str → Option Value} {base : Heap} {f : Addr} {fd : FuncData} (F : Fun K "duties" "duties" s_pduties f fd) (B : Bn mg) (h_phalves_of : Fd P w K mg base "halves_of" 2 ["form"] [] f_phalves_of)    :
    FnOk P w K mg base (L2N.CX P w) 4 f fd ["form"] (spF K mg 1 [] f_pduties) := by
  refine fn_ok F sc_pduties (by decide) (by decide) fun cdv A outer s H E hr => ?_
  have nd := sc_pduties.nd
  have tk : L2N.Takes (cxOf (L2N.CX P w) P w K mg base ["form", "found"] "duties" (defScope s_pduties) f cdv A outer s H E) (fun cls d _ H => E cls d H) := L2N.takes_of rfl rfl rfl rfl
  have pn : PassesOwn (model P w) (cxOf (L2N.CX P w) P w K mg base ["form", "found"] "duties" (defScope s_pduties) f cdv A outer s H E).A (cxOf (L2N.CX P w) P w K mg base ["form", "found"] "duties" (defScope s_pduties) f cdv A outer s H E).env (cxOf (L2N.CX P w) P w K mg base ["form", "found"] "duties" (defScope s_pduties) f cdv A outer s H E).xe := passes_of rfl
  unfold m_pduties
  exact mss_cons (ms_if (mt_cmp (op_eqM hr.units) os_eq (me_ix (me_var (i := 0) rfl (.inl v_pduties_0)) (me_int)) (me_str) (nomark _)) (mss_one (ms_ret (me_add (me_add (me_mul (me_lst (ma_cons (me_str) (ma_nil))) (me_ix (me_fz (mf_call h_phalves_of hr (by decide) tk (ma_cons (me_var (i := 0) rfl (.inl v_pduties_0)) (ma_nil)) (lng_cons lng_nil) (hg := (g_pduties_halves_of _ _ _)))) (me_int))) (me_mul (me_lst (ma_cons (me_str) (ma_nil))) (me_ix (me_var (i := 0) rfl (.inl v_pduties_0)) (me_int)))) (me_mul (me_lst (ma_cons (me_str) (ma_nil))) (mb_int B.int (ma_cons (me_cmp (op_eqM hr.units) os_eq (me_ix (me_var (i := 0) rfl (.inl v_pduties_0)) (me_int)) (me_str) (nomark _)) (ma_nil)) (hg := (g_pduties_int _ _ _))))))) (mss_nil)) (mss_cons (ms_setO (i := 1) nd rfl (.inl v_pduties_1) (mo_mult (me_lst (ma_cons (me_str) (ma_cons (me_str) (ma_nil)))) (me_ix (me_var (i := 0) rfl (.inl v_pduties_0)) (me_int)))) (mss_cons (ms_if (mt_cmp (op_eqM hr.units) os_eq (me_ix (me_var (i := 0) rfl (.inl v_pduties_0)) (me_int)) (me_str) (nomark _)) (mss_one (ms_setIx (i := 1) rfl (.inl v_pduties_1) (me_str) (me_neg (me_int)))) (mss_nil)) (mss_one (ms_retO (mo_var (i := 1) rfl (.inl v_pduties_1))))))

abbrev s_phalves_in : Stmt := top 11
theorem sc_phalves_in : FnScope ["row", "found", "byte"] ["row"] (defScope s_phalves_in) := ⟨rfl, rfl, rfl, by decide +kernel, rfl, by decide +kernel, by decide +kernel⟩
theorem v_phalves_in_0 : (defScope s_phalves_in).names.lookup ("row" : Str) = some NameKind.local := by decide +kernel
theorem v_phalves_in_1 : (defScope s_phalves_in).names.lookup ("found" : Str) = some NameKind.local := by decide +kernel
theorem v_phalves_in_2 : (defScope s_phalves_in).names.lookup ("byte" : Str) = some NameKind.local := by decide +kernel
theorem ok_phalves_in {P : Program} {w : World} {K : PySem.W.Frag} {mg : Str → Option Value} {base : Heap} {f : Addr} {fd : FuncData} (F : Fun K "halves_in" "halves_in" s_phalves_in f fd) (B : Bn mg)     :
    FnOk P w K mg base (L2N.CX P w) 2 f fd ["row"] (spF K mg 1 [] f_phalves_in) := by
  refine fn_ok F sc_phalves_in (by decide) (by decide) fun cdv A outer s H E hr => ?_
  have nd := sc_phalves_in.nd
  have tk : L2N.Takes (cxOf (L2N.CX P w) P w K mg base ["row", "found", "byte"] "halves_in" (defScope s_phalves_in) f cdv A outer s H E) (fun cls d _ H => E cls d H) := L2N.takes_of rfl rfl rfl rfl
  have pn : PassesOwn (model P w) (cxOf (L2N.CX P w) P w K mg base ["row", "found", "byte"] "halves_in" (defScope s_phalves_in) f cdv A outer s H E).A (cxOf (L2N.CX P w) P w K mg base ["row", "found", "byte"] "halves_in" (defScope s_phalves_in) f cdv A outer s H E).env (cxOf (L2N.CX P w) P w K mg base ["row", "found", "byte"] "halves_in" (defScope s_phalves_in) f cdv A outer s H E).xe := passes_of rfl
  unfold m_phalves_in
  exact mss_cons (ms_setO (i := 1) nd rfl (.inl v_phalves_in_1) (mo_lst (ma_nil))) (mss_cons (ms_for pn rfl (mi_val (me_var (i := 0) rfl (.inl v_phalves_in_0))) (mg_name (i := 2) nd rfl (.inl v_phalves_in_2)) (mss_one (ms_expr (me_lm1 ls_extend PySem.F.slot_list_extend PySem.F.type_list_extend mt_extend (i := 1) rfl (.inl v_phalves_in_1) (ma_cons (me_lst (ma_cons (me_div (me_var (i := 2) rfl (.inl v_phalves_in_2)) (me_int)) (ma_cons (me_mod (me_var (i := 2) rfl (.inl v_phalves_in_2)) (me_int)) (ma_nil)))) (ma_nil)))))) (mss_one (ms_retO (mo_var (i := 1) rfl (.inl v_phalves_in_1)))))

abbrev s_phalf_right : Stmt := top 13
theorem sc_phalf_right : FnScope ["duty", "half"] ["duty", "half"] (defScope s_phalf_right) := ⟨rfl, rfl, rfl, by decide +kernel, rfl, by decide +kernel, by decide +kernel⟩
theorem v_phalf_right_0 : (defScope s_phalf_right).names.lookup ("duty" : Str) = some NameKind.local := by decide +kernel
theorem v_phalf_right_1 : (defScope s_phalf_right).names.lookup ("half" : Str) = some NameKind.local := by decide +kernel
theorem g_phalf_right_ZONE_HALF (L a : Addr) (cd : Value) : (PyProof.Rows.envOfC "half_right" (defScope s_phalf_right) L a cd).kindOf ("ZONE_HALF" : Str) = some NameKind.globalImplicit := rfl
theorem ok_phalf_right {P : Program} {w : World} {K : PySem.W.Frag} {mg : Str → Option Value} {base : Heap} {f : Addr} {fd : FuncData} (F : Fun K "half_right" "half_right" s_phalf_right f fd) (B : Bn mg)    (c_ZONE_HALF : Cst K mg "ZONE_HALF" (.int 15)) :
    FnOk P w K mg base (L2N.CX P w) 2 f fd ["duty", "half"] (spF K mg 2 [] f_phalf_right) := by
  refine fn_ok F sc_phalf_right (by decide) (by decide) fun cdv A outer s H E hr => ?_
  have nd := sc_phalf_right.nd
  have tk : L2N.Takes (cxOf (L2N.CX P w) P w K mg base ["duty", "half"] "half_right" (defScope s_phalf_right) f cdv A outer s H E) (fun cls d _ H => E cls d H) := L2N.takes_of rfl rfl rfl rfl
  have pn : PassesOwn (model P w) (cxOf (L2N.CX P w) P w K mg base ["duty", "half"] "half_right" (defScope s_phalf_right) f cdv A outer s H E).A (cxOf (L2N.CX P w) P w K mg base ["duty", "half"] "half_right" (defScope s_phalf_right) f cdv A outer s H E).env (cxOf (L2N.CX P w) P w K mg base ["duty", "half"] "half_right" (defScope s_phalf_right) f cdv A outer s H E).xe := passes_of rfl
  unfold m_phalf_right
  exact mss_cons (ms_if (mt_cmp (op_eqM hr.units) os_eq (me_var (i := 0) rfl (.inl v_phalf_right_0)) (me_str) (nomark _)) (mss_one (ms_ret (me_cmp (op_eqM hr.units) os_eq (me_var (i := 1) rfl (.inl v_phalf_right_1)) (me_int) (nomark _)))) (mss_nil)) (mss_cons (ms_if (mt_cmp (op_eqM hr.units) os_eq (me_var (i := 0) rfl (.inl v_phalf_right_0)) (me_str) (nomark _)) (mss_one (ms_ret (me_cmp op_lt os_lt (me_var (i := 1) rfl (.inl v_phalf_right_1)) (me_int) (nomark _)))) (mss_nil)) (mss_cons (ms_if (mt_cmp (op_eqM hr.units) os_eq (me_var (i := 0) rfl (.inl v_phalf_right_0)) (me_str) (nomark _)) (mss_one (ms_ret (me_cmp (op_eqM hr.units) os_eq (me_var (i := 1) rfl (.inl v_phalf_right_1)) (mf_con c_ZONE_HALF (hg := (g_phalf_right_ZONE_HALF _ _ _))) (nomark _)))) (mss_nil)) (mss_one (ms_ret (me_cmp op_gt os_gt (me_var (i := 1) rfl (.inl v_phalf_right_1)) (me_int) (nomark _))))))

abbrev s_pcaught : Stmt := top 14
theorem sc_pcaught : FnScope ["form", "row", "due", "halves", "place", "half"] ["form", "row"] (defScope s_pcaught) := ⟨rfl, rfl, rfl, by decide +kernel, rfl, by decide +kernel, by decide +kernel⟩
theorem v_pcaught_0 : (defScope s_pcaught).names.lookup ("form" : Str) = some NameKind.local := by decide +kernel
theorem v_pcaught_1 : (defScope s_pcaught).names.lookup ("row" : Str) = some NameKind.local := by decide +kernel
theorem v_pcaught_2 : (defScope s_pcaught).names.lookup ("due" : Str) = some NameKind.local := by decide +kernel
theorem v_pcaught_3 : (defScope s_pcaught).names.lookup ("halves" : Str) = some NameKind.local := by decide +kernel
theorem v_pcaught_4 : (defScope s_pcaught).names.lookup ("place" : Str) = some NameKind.local := by decide +kernel
theorem v_pcaught_5 : (defScope s_pcaught).names.lookup ("half" : Str) = some NameKind.local := by decide +kernel
theorem g_pcaught_duties (L a : Addr) (cd : Value) : (PyProof.Rows.envOfC "caught" (defScope s_pcaught) L a cd).kindOf ("duties" : Str) = some NameKind.globalImplicit := rfl
theorem g_pcaught_halves_in (L a : Addr) (cd : Value) : (PyProof.Rows.envOfC "caught" (defScope s_pcaught) L a cd).kindOf ("halves_in" : Str) = some NameKind.globalImplicit := rfl
theorem g_pcaught_enumerate (L a : Addr) (cd : Value) : (PyProof.Rows.envOfC "caught" (defScope s_pcaught) L a cd).kindOf ("enumerate" : Str) = some NameKind.globalImplicit := rfl
theorem g_pcaught_len (L a : Addr) (cd : Value) : (PyProof.Rows.envOfC "caught" (defScope s_pcaught) L a cd).kindOf ("len" : Str) = some NameKind.globalImplicit := rfl
theorem g_pcaught_half_right (L a : Addr) (cd : Value) : (PyProof.Rows.envOfC "caught" (defScope s_pcaught) L a cd).kindOf ("half_right" : Str) = some NameKind.globalImplicit := rfl
theorem ok_pcaught {P : Program} {w : World} {K : PySem.W.Frag} {mg : Str → Option Value} {base : Heap} {f : Addr} {fd : FuncData} (F : Fun K "caught" "caught" s_pcaught f fd) (B : Bn mg) (h_pduties : Fd P w K mg base "duties" 4 ["form"] [] f_pduties) (h_phalves_in : Fd P w K mg base "halves_in" 2 ["row"] [] f_phalves_in) (h_phalf_right : Fd P w K mg base "half_right" 2 ["duty", "half"] [] f_phalf_right)    :
    FnOk P w K mg base (L2N.CX P w) 6 f fd ["form", "row"] (spF K mg 2 [] f_pcaught) := by
  refine fn_ok F sc_pcaught (by decide) (by decide) fun cdv A outer s H E hr => ?_
  have nd := sc_pcaught.nd
  have tk : L2N.Takes (cxOf (L2N.CX P w) P w K mg base ["form", "row", "due", "halves", "place", "half"] "caught" (defScope s_pcaught) f cdv A outer s H E) (fun cls d _ H => E cls d H) := L2N.takes_of rfl rfl rfl rfl
  have pn : PassesOwn (model P w) (cxOf (L2N.CX P w) P w K mg base ["form", "row", "due", "halves", "place", "half"] "caught" (defScope s_pcaught) f cdv A outer s H E).A (cxOf (L2N.CX P w) P w K mg base ["form", "row", "due", "halves", "place", "half"] "caught" (defScope s_pcaught) f cdv A outer s H E).env (cxOf (L2N.CX P w) P w K mg base ["form", "row", "due", "halves", "place", "half"] "caught" (defScope s_pcaught) f cdv A outer s H E).xe := passes_of rfl
  unfold m_pcaught
  exact mss_cons (ms_set (i := 2) nd rfl (.inl v_pcaught_2) (me_fz (mf_call h_pduties hr (by decide) tk (ma_cons (me_var (i := 0) rfl (.inl v_pcaught_0)) (ma_nil)) (lng_cons lng_nil) (hg := (g_pcaught_duties _ _ _))))) (mss_cons (ms_set (i := 3) nd rfl (.inl v_pcaught_3) (me_fz (mf_call h_phalves_in hr (by decide) tk (ma_cons (me_var (i := 1) rfl (.inl v_pcaught_1)) (ma_nil)) (lng_cons lng_nil) (hg := (g_pcaught_halves_in _ _ _))))) (mss_cons (ms_for pn rfl (mi_enum B.enumerate (ma_cons (me_var (i := 3) rfl (.inl v_pcaught_3)) (ma_nil)) (hg := (g_pcaught_enumerate _ _ _))) (mg_tup rfl (mgs_cons (mg_name (i := 4) nd rfl (.inl v_pcaught_4)) (mgs_cons (mg_name (i := 5) nd rfl (.inl v_pcaught_5)) (mgs_nil)))) (mss_cons (ms_if (mt_cmp op_ge os_ge (me_var (i := 4) rfl (.inl v_pcaught_4)) (mb_len B.len (ma_cons (me_var (i := 2) rfl (.inl v_pcaught_2)) (ma_nil)) (hg := (g_pcaught_len _ _ _))) (nomark _)) (mss_one (ms_ret (me_tup (ma_cons (me_var (i := 4) rfl (.inl v_pcaught_4)) (ma_cons (me_str) (ma_nil)))))) (mss_nil)) (mss_one (ms_if (mt_not (mt_val (me_fz (mf_call h_phalf_right hr (by decide) tk (ma_cons (me_ix (me_var (i := 2) rfl (.inl v_pcaught_2)) (me_var (i := 4) rfl (.inl v_pcaught_4))) (ma_cons (me_var (i := 5) rfl (.inl v_pcaught_5)) (ma_nil))) (lng_cons (lng_cons lng_nil)) (hg := (g_pcaught_half_right _ _ _)))))) (mss_one (ms_ret (me_tup (ma_cons (me_var (i := 4) rfl (.inl v_pcaught_4)) (ma_cons (me_ix (me_var (i := 2) rfl (.inl v_pcaught_2)) (me_var (i := 4) rfl (.inl v_pcaught_4))) (ma_nil)))))) (mss_nil))))) (mss_cons (ms_if (mt_cmp op_lt os_lt (mb_len B.len (ma_cons (me_var (i := 3) rfl (.inl v_pcaught_3)) (ma_nil)) (hg := (g_pcaught_len _ _ _))) (mb_len B.len (ma_cons (me_var (i := 2) rfl (.inl v_pcaught_2)) (ma_nil)) (hg := (g_pcaught_len _ _ _))) (nomark _)) (mss_one (ms_ret (me_tup (ma_cons (mb_len B.len (ma_cons (me_var (i := 3) rfl (.inl v_pcaught_3)) (ma_nil)) (hg := (g_pcaught_len _ _ _))) (ma_cons (me_str) (ma_nil)))))) (mss_nil)) (mss_one (ms_ret (me_non))))))

abbrev s_pnumber_by : Stmt := top 7
theorem sc_pnumber_by : FnScope ["base", "digits", "found", "digit"] ["base", "digits"] (defScope s_pnumber_by) := ⟨rfl, rfl, rfl, by decide +kernel, rfl, by decide +kernel, by decide +kernel⟩
theorem v_pnumber_by_0 : (defScope s_pnumber_by).names.lookup ("base" : Str) = some NameKind.local := by decide +kernel
theorem v_pnumber_by_1 : (defScope s_pnumber_by).names.lookup ("digits" : Str) = some NameKind.local := by decide +kernel
theorem v_pnumber_by_2 : (defScope s_pnumber_by).names.lookup ("found" : Str) = some NameKind.local := by decide +kernel
theorem v_pnumber_by_3 : (defScope s_pnumber_by).names.lookup ("digit" : Str) = some NameKind.local := by decide +kernel
theorem ok_pnumber_by {P : Program} {w : World} {K : PySem.W.Frag} {mg : Str → Option Value} {base : Heap} {f : Addr} {fd : FuncData} (F : Fun K "number_by" "number_by" s_pnumber_by f fd) (B : Bn mg)     :
    FnOk P w K mg base (L2N.CX P w) 2 f fd ["base", "digits"] (spF K mg 2 [] f_pnumber_by) := by
  refine fn_ok F sc_pnumber_by (by decide) (by decide) fun cdv A outer s H E hr => ?_
  have nd := sc_pnumber_by.nd
  have tk : L2N.Takes (cxOf (L2N.CX P w) P w K mg base ["base", "digits", "found", "digit"] "number_by" (defScope s_pnumber_by) f cdv A outer s H E) (fun cls d _ H => E cls d H) := L2N.takes_of rfl rfl rfl rfl
  have pn : PassesOwn (model P w) (cxOf (L2N.CX P w) P w K mg base ["base", "digits", "found", "digit"] "number_by" (defScope s_pnumber_by) f cdv A outer s H E).A (cxOf (L2N.CX P w) P w K mg base ["base", "digits", "found", "digit"] "number_by" (defScope s_pnumber_by) f cdv A outer s H E).env (cxOf (L2N.CX P w) P w K mg base ["base", "digits", "found", "digit"] "number_by" (defScope s_pnumber_by) f cdv A outer s H E).xe := passes_of rfl
  unfold m_pnumber_by
  exact mss_cons (ms_set (i := 2) nd rfl (.inl v_pnumber_by_2) (me_int)) (mss_cons (ms_for pn rfl (mi_val (me_var (i := 1) rfl (.inl v_pnumber_by_1))) (mg_name (i := 3) nd rfl (.inl v_pnumber_by_3)) (mss_one (ms_set (i := 2) nd rfl (.inl v_pnumber_by_2) (me_add (me_mul (me_var (i := 2) rfl (.inl v_pnumber_by_2)) (me_var (i := 0) rfl (.inl v_pnumber_by_0))) (me_var (i := 3) rfl (.inl v_pnumber_by_3)))))) (mss_one (ms_ret (me_var (i := 2) rfl (.inl v_pnumber_by_2)))))

abbrev s_ppower : Stmt := top 6
theorem sc_ppower : FnScope ["base", "many", "found", "k"] ["base", "many"] (defScope s_ppower) := ⟨rfl, rfl, rfl, by decide +kernel, rfl, by decide +kernel, by decide +kernel⟩
theorem v_ppower_0 : (defScope s_ppower).names.lookup ("base" : Str) = some NameKind.local := by decide +kernel
theorem v_ppower_1 : (defScope s_ppower).names.lookup ("many" : Str) = some NameKind.local := by decide +kernel
theorem v_ppower_2 : (defScope s_ppower).names.lookup ("found" : Str) = some NameKind.local := by decide +kernel
theorem v_ppower_3 : (defScope s_ppower).names.lookup ("k" : Str) = some NameKind.local := by decide +kernel
theorem g_ppower_range (L a : Addr) (cd : Value) : (PyProof.Rows.envOfC "power" (defScope s_ppower) L a cd).kindOf ("range" : Str) = some NameKind.globalImplicit := rfl
theorem ok_ppower {P : Program} {w : World} {K : PySem.W.Frag} {mg : Str → Option Value} {base : Heap} {f : Addr} {fd : FuncData} (F : Fun K "power" "power" s_ppower f fd) (B : Bn mg)     :
    FnOk P w K mg base (L2N.CX P w) 2 f fd ["base", "many"] (spF K mg 2 [] f_ppower) := by
  refine fn_ok F sc_ppower (by decide) (by decide) fun cdv A outer s H E hr => ?_
  have nd := sc_ppower.nd
  have tk : L2N.Takes (cxOf (L2N.CX P w) P w K mg base ["base", "many", "found", "k"] "power" (defScope s_ppower) f cdv A outer s H E) (fun cls d _ H => E cls d H) := L2N.takes_of rfl rfl rfl rfl
  have pn : PassesOwn (model P w) (cxOf (L2N.CX P w) P w K mg base ["base", "many", "found", "k"] "power" (defScope s_ppower) f cdv A outer s H E).A (cxOf (L2N.CX P w) P w K mg base ["base", "many", "found", "k"] "power" (defScope s_ppower) f cdv A outer s H E).env (cxOf (L2N.CX P w) P w K mg base ["base", "many", "found", "k"] "power" (defScope s_ppower) f cdv A outer s H E).xe := passes_of rfl
  unfold m_ppower
  exact mss_cons (ms_set (i := 2) nd rfl (.inl v_ppower_2) (me_int)) (mss_cons (ms_for pn rfl (mi_r1 B.range (ma_cons (me_var (i := 1) rfl (.inl v_ppower_1)) (ma_nil)) (hg := (g_ppower_range _ _ _))) (mg_name (i := 3) nd rfl (.inl v_ppower_3)) (mss_one (ms_set (i := 2) nd rfl (.inl v_ppower_2) (me_mul (me_var (i := 2) rfl (.inl v_ppower_2)) (me_var (i := 0) rfl (.inl v_ppower_0)))))) (mss_one (ms_ret (me_var (i := 2) rfl (.inl v_ppower_2)))))

abbrev s_pnumber_of : Stmt := top 15
theorem sc_pnumber_of : FnScope ["form", "row", "amiss", "due", "halves", "figures", "number", "k"] ["form", "row"] (defScope s_pnumber_of) := ⟨rfl, rfl, rfl, by decide +kernel, rfl, by decide +kernel, by decide +kernel⟩
theorem v_pnumber_of_0 : (defScope s_pnumber_of).names.lookup ("form" : Str) = some NameKind.local := by decide +kernel
theorem v_pnumber_of_1 : (defScope s_pnumber_of).names.lookup ("row" : Str) = some NameKind.local := by decide +kernel
theorem v_pnumber_of_2 : (defScope s_pnumber_of).names.lookup ("amiss" : Str) = some NameKind.local := by decide +kernel
theorem v_pnumber_of_3 : (defScope s_pnumber_of).names.lookup ("due" : Str) = some NameKind.cell := by decide +kernel
theorem v_pnumber_of_4 : (defScope s_pnumber_of).names.lookup ("halves" : Str) = some NameKind.cell := by decide +kernel
theorem v_pnumber_of_5 : (defScope s_pnumber_of).names.lookup ("figures" : Str) = some NameKind.local := by decide +kernel
theorem v_pnumber_of_6 : (defScope s_pnumber_of).names.lookup ("number" : Str) = some NameKind.local := by decide +kernel
theorem g_pnumber_of_caught (L a : Addr) (cd : Value) : (PyProof.Rows.envOfC "number_of" (defScope s_pnumber_of) L a cd).kindOf ("caught" : Str) = some NameKind.globalImplicit := rfl
theorem g_pnumber_of_Wrong (L a : Addr) (cd : Value) : (PyProof.Rows.envOfC "number_of" (defScope s_pnumber_of) L a cd).kindOf ("Wrong" : Str) = some NameKind.globalImplicit := rfl
theorem g_pnumber_of_duties (L a : Addr) (cd : Value) : (PyProof.Rows.envOfC "number_of" (defScope s_pnumber_of) L a cd).kindOf ("duties" : Str) = some NameKind.globalImplicit := rfl
theorem g_pnumber_of_halves_in (L a : Addr) (cd : Value) : (PyProof.Rows.envOfC "number_of" (defScope s_pnumber_of) L a cd).kindOf ("halves_in" : Str) = some NameKind.globalImplicit := rfl
theorem g_pnumber_of_len (L a : Addr) (cd : Value) : (PyProof.Rows.envOfC "number_of" (defScope s_pnumber_of) L a cd).kindOf ("len" : Str) = some NameKind.globalImplicit := rfl
theorem g_pnumber_of_range (L a : Addr) (cd : Value) : (PyProof.Rows.envOfC "number_of" (defScope s_pnumber_of) L a cd).kindOf ("range" : Str) = some NameKind.globalImplicit := rfl
theorem g_pnumber_of_number_by (L a : Addr) (cd : Value) : (PyProof.Rows.envOfC "number_of" (defScope s_pnumber_of) L a cd).kindOf ("number_by" : Str) = some NameKind.globalImplicit := rfl
theorem g_pnumber_of_MINUS_HALVES (L a : Addr) (cd : Value) : (PyProof.Rows.envOfC "number_of" (defScope s_pnumber_of) L a cd).kindOf ("MINUS_HALVES" : Str) = some NameKind.globalImplicit := rfl
theorem g_pnumber_of_power (L a : Addr) (cd : Value) : (PyProof.Rows.envOfC "number_of" (defScope s_pnumber_of) L a cd).kindOf ("power" : Str) = some NameKind.globalImplicit := rfl
theorem ok_pnumber_of {P : Program} {w : World} {K : PySem.W.Frag} {mg : Str → Option Value} {base : Heap} {f : Addr} {fd : FuncData} (F : Fun K "number_of" "number_of" s_pnumber_of f fd) (B : Bn mg) (h_pcaught : Fd P w K mg base "caught" 6 ["form", "row"] [] f_pcaught) (h_pduties : Fd P w K mg base "duties" 4 ["form"] [] f_pduties) (h_phalves_in : Fd P w K mg base "halves_in" 2 ["row"] [] f_phalves_in) (h_pnumber_by : Fd P w K mg base "number_by" 2 ["base", "digits"] [] f_pnumber_by) (h_ppower : Fd P w K mg base "power" 2 ["base", "many"] [] f_ppower)  (xcl2_Wrong_place_why : Cl2 P w K mg base "Wrong" "place" "why") (c_MINUS_HALVES : Cst K mg "MINUS_HALVES" (.tup [(.int 11), (.int 13)])) :
    FnOk P w K mg base (L2N.CX P w) 8 f fd ["form", "row"] (spF K mg 2 [] f_pnumber_of) := by
  refine fn_ok F sc_pnumber_of (by decide) (by decide) fun cdv A outer s H E hr => ?_
  have nd := sc_pnumber_of.nd
  have tk : L2N.Takes (cxOf (L2N.CX P w) P w K mg base ["form", "row", "amiss", "due", "halves", "figures", "number", "k"] "number_of" (defScope s_pnumber_of) f cdv A outer s H E) (fun cls d _ H => E cls d H) := L2N.takes_of rfl rfl rfl rfl
  have pn : PassesOwn (model P w) (cxOf (L2N.CX P w) P w K mg base ["form", "row", "amiss", "due", "halves", "figures", "number", "k"] "number_of" (defScope s_pnumber_of) f cdv A outer s H E).A (cxOf (L2N.CX P w) P w K mg base ["form", "row", "amiss", "due", "halves", "figures", "number", "k"] "number_of" (defScope s_pnumber_of) f cdv A outer s H E).env (cxOf (L2N.CX P w) P w K mg base ["form", "row", "amiss", "due", "halves", "figures", "number", "k"] "number_of" (defScope s_pnumber_of) f cdv A outer s H E).xe := passes_of rfl
  unfold m_pnumber_of
  exact mss_cons (ms_set (i := 2) nd rfl (.inl v_pnumber_of_2) (me_fz (mf_call h_pcaught hr (by decide) tk (ma_cons (me_var (i := 0) rfl (.inl v_pnumber_of_0)) (ma_cons (me_var (i := 1) rfl (.inl v_pnumber_of_1)) (ma_nil))) (lng_cons (lng_cons lng_nil)) (hg := (g_pnumber_of_caught _ _ _))))) (mss_cons (ms_if (mt_cmp op_notN os_notN (me_var (i := 2) rfl (.inl v_pnumber_of_2)) (me_non) (nomark _)) (mss_one (ms_raise2 xcl2_Wrong_place_why rfl hr (by decide) tk (g_pnumber_of_Wrong _ _ _) (me_ix (me_var (i := 2) rfl (.inl v_pnumber_of_2)) (me_int)) (me_ix (me_var (i := 2) rfl (.inl v_pnumber_of_2)) (me_int)))) (mss_nil)) (mss_cons (ms_set (i := 3) nd rfl (.inr v_pnumber_of_3) (me_fz (mf_call h_pduties hr (by decide) tk (ma_cons (me_var (i := 0) rfl (.inl v_pnumber_of_0)) (ma_nil)) (lng_cons lng_nil) (hg := (g_pnumber_of_duties _ _ _))))) (mss_cons (ms_set (i := 4) nd rfl (.inr v_pnumber_of_4) (me_fz (mf_call h_phalves_in hr (by decide) tk (ma_cons (me_var (i := 1) rfl (.inl v_pnumber_of_1)) (ma_nil)) (lng_cons lng_nil) (hg := (g_pnumber_of_halves_in _ _ _))))) (mss_cons (ms_setLc (own := [("k", 7)]) (g := .nm 7) (i := 5) rfl nd rfl v_pnumber_of_5 (sw_true rfl v_pnumber_of_5 rfl (by decide +kernel)) (mi_r1 B.range (ma_cons (mb_len B.len (ma_cons (me_var (i := 3) rfl (.inr (.inl v_pnumber_of_3))) (ma_nil)) (hg := (g_pnumber_of_len _ _ _))) (ma_nil)) (hg := (g_pnumber_of_range _ _ _))) (blkOk_at (N' := ["form", "row", "amiss", "due", "halves", "figures", "number", "k"]) (sc' := defScope s_pnumber_of) rfl rfl (by decide +kernel)) (fun _ _ _ _ _ => pg_name (i := 7) nd rfl (Or.inl rfl)) (fun _ _ _ _ _ => mts_one (mt_cmp (op_eqM hr.units) os_eq (me_ix (me_var (i := 3) rfl (by first | exact .inr (.inr rfl) | exact .inl rfl | exact .inr (.inl rfl))) (me_var (i := 7) rfl (.inl rfl))) (me_str) (nomark _))) (fun _ _ _ _ _ => me_ix (me_var (i := 4) rfl (by first | exact .inr (.inr rfl) | exact .inl rfl | exact .inr (.inl rfl))) (me_var (i := 7) rfl (.inl rfl))) (hbs := hbs_of rfl)) (mss_cons (ms_set (i := 6) nd rfl (.inl v_pnumber_of_6) (me_fz (mf_call h_pnumber_by hr (by decide) tk (ma_cons (me_int) (ma_cons (me_var (i := 5) rfl (.inl v_pnumber_of_5)) (ma_nil))) (lng_cons (lng_cons lng_nil)) (hg := (g_pnumber_of_number_by _ _ _))))) (mss_cons (ms_if (PW.pt (mw_and (mt_cmp (op_eqM hr.units) os_eq (me_ix (me_var (i := 0) rfl (.inl v_pnumber_of_0)) (me_int)) (me_str) (nomark _)) (mw_one_and (mt_cmp op_inM os_in (me_ix (me_var (i := 4) rfl (.inr (.inl v_pnumber_of_4))) (me_lx lx_index PySem.F.slot_list_index PySem.F.type_list_index mt_index (me_var (i := 3) rfl (.inr (.inl v_pnumber_of_3))) (ma_cons (me_str) (ma_nil)))) (mf_con c_MINUS_HALVES (hg := (g_pnumber_of_MINUS_HALVES _ _ _))) rfl)))) (mss_one (ms_ret (me_neg (me_var (i := 6) rfl (.inl v_pnumber_of_6))))) (mss_nil)) (mss_cons (ms_if (PW.pt (mw_and (mt_cmp (op_eqM hr.units) os_eq (me_ix (me_var (i := 0) rfl (.inl v_pnumber_of_0)) (me_int)) (me_str) (nomark _)) (mw_one_and (mt_cmp op_gt os_gt (me_ix (me_var (i := 5) rfl (.inl v_pnumber_of_5)) (me_int)) (me_int) (nomark _))))) (mss_one (ms_ret (me_sub (me_var (i := 6) rfl (.inl v_pnumber_of_6)) (me_fz (mf_call h_ppower hr (by decide) tk (ma_cons (me_int) (ma_cons (me_ix (me_var (i := 0) rfl (.inl v_pnumber_of_0)) (me_int)) (ma_nil))) (lng_cons (lng_cons lng_nil)) (hg := (g_pnumber_of_power _ _ _))))))) (mss_nil)) (mss_one (ms_ret (me_var (i := 6) rfl (.inl v_pnumber_of_6)))))))))))

abbrev s_lread2 : Stmt := top 52
theorem sc_lread2 : FnScope ["_law_form_here", "_law_row", "_law_found", "e"] ["_law_form_here", "_law_row"] (defScope s_lread2) := ⟨rfl, rfl, rfl, by decide +kernel, rfl, by decide +kernel, by decide +kernel⟩
theorem v_lread2_0 : (defScope s_lread2).names.lookup ("_law_form_here" : Str) = some NameKind.local := by decide +kernel
theorem v_lread2_1 : (defScope s_lread2).names.lookup ("_law_row" : Str) = some NameKind.local := by decide +kernel
theorem v_lread2_2 : (defScope s_lread2).names.lookup ("_law_found" : Str) = some NameKind.local := by decide +kernel
theorem v_lread2_3 : (defScope s_lread2).names.lookup ("e" : Str) = some NameKind.local := by decide +kernel
theorem g_lread2_Wrong (L a : Addr) (cd : Value) : (PyProof.Rows.envOfC "_law_read" (defScope s_lread2) L a cd).kindOf ("Wrong" : Str) = some NameKind.globalImplicit := rfl
theorem g_lread2_number_of (L a : Addr) (cd : Value) : (PyProof.Rows.envOfC "_law_read" (defScope s_lread2) L a cd).kindOf ("number_of" : Str) = some NameKind.globalImplicit := rfl
theorem ok_lread2 {P : Program} {w : World} {K : PySem.W.Frag} {mg : Str → Option Value} {base : Heap} {f : Addr} {fd : FuncData} (F : Fun K "_law_read" "_law_read" s_lread2 f fd) (B : Bn mg) (h_pnumber_of : Fd P w K mg base "number_of" 8 ["form", "row"] [] f_pnumber_of)  (xext_Wrong_Wrong_True : ExT K mg "Wrong" "Wrong" true) (xcls_Wrong : ∃ D, mg "Wrong" = some (.ref D)) (xxcf_Wrong_place_why : XcF K mg ["place", "why"] "Wrong")  :
    FnOk P w K mg base (L2N.CX P w) 10 f fd ["_law_form_here", "_law_row"] (spF K mg 2 [] f_lread2) := by
  refine fn_ok F sc_lread2 (by decide) (by decide) fun cdv A outer s H E hr => ?_
  have nd := sc_lread2.nd
  have tk : L2N.Takes (cxOf (L2N.CX P w) P w K mg base ["_law_form_here", "_law_row", "_law_found", "e"] "_law_read" (defScope s_lread2) f cdv A outer s H E) (fun cls d _ H => E cls d H) := L2N.takes_of rfl rfl rfl rfl
  have pn : PassesOwn (model P w) (cxOf (L2N.CX P w) P w K mg base ["_law_form_here", "_law_row", "_law_found", "e"] "_law_read" (defScope s_lread2) f cdv A outer s H E).A (cxOf (L2N.CX P w) P w K mg base ["_law_form_here", "_law_row", "_law_found", "e"] "_law_read" (defScope s_lread2) f cdv A outer s H E).env (cxOf (L2N.CX P w) P w K mg base ["_law_form_here", "_law_row", "_law_found", "e"] "_law_read" (defScope s_lread2) f cdv A outer s H E).xe := passes_of rfl
  unfold m_lread2
  exact mss_cons (ms_set (i := 2) nd rfl (.inl v_lread2_2) (me_non)) (mss_cons (ms_try (i := 3) (tab := [("Wrong", true)]) rfl rfl nd rfl (by first | rfl | decide +kernel) (g_lread2_Wrong _ _ _) tk (fa_cons xext_Wrong_Wrong_True (fa_nil)) xcls_Wrong (fun W pl xe tk pn => mss_one (ms_set (i := 2) nd rfl (.inl v_lread2_2) (me_tup (ma_cons (me_str) (ma_cons (me_fz (mf_call h_pnumber_of hr (by decide) tk (ma_cons (me_var (i := 0) rfl (.inl v_lread2_0)) (ma_cons (me_var (i := 1) rfl (.inl v_lread2_1)) (ma_nil))) (lng_cons (lng_cons lng_nil)) (hg := (g_lread2_number_of _ _ _)))) (ma_nil)))))) (fun a oe C d pl e hC hT hz hv => mss_one (ms_set (i := 2) nd rfl (.inl v_lread2_2) (me_tup (ma_cons (me_str) (ma_cons (me_tup (ma_cons (mx_f (xc_at (fs := ["place", "why"]) (ts := ["Wrong"]) (fa_cons xxcf_Wrong_place_why (fa_nil)) (by decide) hC hT) (by decide) hz hv rfl (.inl v_lread2_3)) (ma_cons (mx_f (xc_at (fs := ["place", "why"]) (ts := ["Wrong"]) (fa_cons xxcf_Wrong_place_why (fa_nil)) (by decide) hC hT) (by decide) hz hv rfl (.inl v_lread2_3)) (ma_nil)))) (ma_nil))))))) (mss_one (ms_ret (me_var (i := 2) rfl (.inl v_lread2_2)))))

abbrev s_ljust : Stmt := top 49
theorem sc_ljust : FnScope ["_law_found", "_law_due", "_law_part", "_law_wanted"] ["_law_found", "_law_due"] (defScope s_ljust) := ⟨rfl, rfl, rfl, by decide +kernel, rfl, by decide +kernel, by decide +kernel⟩
theorem v_ljust_0 : (defScope s_ljust).names.lookup ("_law_found" : Str) = some NameKind.local := by decide +kernel
theorem v_ljust_1 : (defScope s_ljust).names.lookup ("_law_due" : Str) = some NameKind.local := by decide +kernel
theorem g_ljust_tuple (L a : Addr) (cd : Value) : (PyProof.Rows.envOfC "_law_just" (defScope s_ljust) L a cd).kindOf ("tuple" : Str) = some NameKind.globalImplicit := rfl
theorem g_ljust_isinstance (L a : Addr) (cd : Value) : (PyProof.Rows.envOfC "_law_just" (defScope s_ljust) L a cd).kindOf ("isinstance" : Str) = some NameKind.globalImplicit := rfl
theorem g_ljust_len (L a : Addr) (cd : Value) : (PyProof.Rows.envOfC "_law_just" (defScope s_ljust) L a cd).kindOf ("len" : Str) = some NameKind.globalImplicit := rfl
theorem g_ljust_zip (L a : Addr) (cd : Value) : (PyProof.Rows.envOfC "_law_just" (defScope s_ljust) L a cd).kindOf ("zip" : Str) = some NameKind.globalImplicit := rfl
theorem g_ljust_all (L a : Addr) (cd : Value) : (PyProof.Rows.envOfC "_law_just" (defScope s_ljust) L a cd).kindOf ("all" : Str) = some NameKind.globalImplicit := rfl
theorem g_ljust_str (L a : Addr) (cd : Value) : (PyProof.Rows.envOfC "_law_just" (defScope s_ljust) L a cd).kindOf ("str" : Str) = some NameKind.globalImplicit := rfl
theorem g_ljust_int (L a : Addr) (cd : Value) : (PyProof.Rows.envOfC "_law_just" (defScope s_ljust) L a cd).kindOf ("int" : Str) = some NameKind.globalImplicit := rfl
theorem g_ljust_bool (L a : Addr) (cd : Value) : (PyProof.Rows.envOfC "_law_just" (defScope s_ljust) L a cd).kindOf ("bool" : Str) = some NameKind.globalImplicit := rfl
theorem ok_ljust {P : Program} {w : World} {K : PySem.W.Frag} {mg : Str → Option Value} {base : Heap} {f : Addr} {fd : FuncData} (F : Fun K "_law_just" "_law_just" s_ljust f fd) (hs : mg "_law_just" = some (.ref f)) (hk : PySem.W.keepIn K (.ref f) = true) (hb : Binds K fd ["_law_found", "_law_due"] []) (B : Bn mg)     :
    ∀ n : Nat, FnOk P w K mg base (L2N.CX P w) (2 + n) f fd ["_law_found", "_law_due"] (spF K mg 2 [] (mRec 4 [] m_ljust n)) := by
  intro n
  induction n with
  | zero => exact fn_off
  | succ n ih =>
  have h_self : Fd P w K mg base "_law_just" (2 + n) ["_law_found", "_law_due"] [] (mRec 4 [] m_ljust n) := ⟨_, _, ih, hs, hk, hb⟩
  refine fn_ok F sc_ljust (by decide) (by decide) fun cdv A outer s H E hr => ?_
  have nd := sc_ljust.nd
  have tk : L2N.Takes (cxOf (L2N.CX P w) P w K mg base ["_law_found", "_law_due", "_law_part", "_law_wanted"] "_law_just" (defScope s_ljust) f cdv A outer s H E) (fun cls d _ H => E cls d H) := L2N.takes_of rfl rfl rfl rfl
  have pn : PassesOwn (model P w) (cxOf (L2N.CX P w) P w K mg base ["_law_found", "_law_due", "_law_part", "_law_wanted"] "_law_just" (defScope s_ljust) f cdv A outer s H E).A (cxOf (L2N.CX P w) P w K mg base ["_law_found", "_law_due", "_law_part", "_law_wanted"] "_law_just" (defScope s_ljust) f cdv A outer s H E).env (cxOf (L2N.CX P w) P w K mg base ["_law_found", "_law_due", "_law_part", "_law_wanted"] "_law_just" (defScope s_ljust) f cdv A outer s H E).xe := passes_of rfl
  show PSs _ _ (rdS _ (m_ljust (mRec 4 [] m_ljust n)))
  unfold m_ljust
  exact mss_cons (ms_if (mt_val (mb_isi B.isinstance (ma_cons (me_var (i := 1) rfl (.inl v_ljust_1)) (ma_cons (me_bltn B.tuple (by decide +kernel) (w := .ty "tuple") rfl (hg := (g_ljust_tuple _ _ _))) ma_nil)) (hg := (g_ljust_isinstance _ _ _)))) (mss_cons (ms_if (PW.pt (mw_or (mt_not (mt_val (mb_isi B.isinstance (ma_cons (me_var (i := 0) rfl (.inl v_ljust_0)) (ma_cons (me_bltn B.tuple (by decide +kernel) (w := .ty "tuple") rfl (hg := (g_ljust_tuple _ _ _))) ma_nil)) (hg := (g_ljust_isinstance _ _ _))))) (mw_one_or (mt_cmp (op_neM hr.units) os_ne (mb_len B.len (ma_cons (me_var (i := 0) rfl (.inl v_ljust_0)) (ma_nil)) (hg := (g_ljust_len _ _ _))) (mb_len B.len (ma_cons (me_var (i := 1) rfl (.inl v_ljust_1)) (ma_nil)) (hg := (g_ljust_len _ _ _))) (nomark _))))) (mss_one (ms_ret (me_bl))) (mss_nil)) (mss_one (ms_ret (mb_all rfl B.all (ma_cons (me_fz (mo_lc (own := [("_law_part", 2), ("_law_wanted", 3)]) (g := .tp [2, 3]) rfl nd (mi_zip B.zip (ma_cons (me_var (i := 0) rfl (.inl v_ljust_0)) (ma_cons (me_var (i := 1) rfl (.inl v_ljust_1)) (ma_nil))) (hg := (g_ljust_zip _ _ _))) (blkOk_at (N' := ["_law_found", "_law_due", "_law_part", "_law_wanted"]) (sc' := defScope s_ljust) rfl rfl (by decide +kernel)) (fun _ _ _ _ _ => pg_tup rfl (pgs_cons (pg_name (i := 2) nd rfl (Or.inl rfl)) (pgs_cons (pg_name (i := 3) nd rfl (Or.inl rfl)) (pgs_nil)))) (fun _ _ _ _ _ => mts_nil) (fun _ _ _ _ _ => me_fz (mf_call0 h_self hr (by first | omega | exact Nat.le_refl _) (ma_cons (me_var (i := 2) rfl (.inl rfl)) (ma_cons (me_var (i := 3) rfl (.inl rfl)) (ma_nil))) (lng_cons (lng_cons lng_nil)) (hg := rfl))) (hbs := hbs_of rfl))) (ma_nil)) (hg := (g_ljust_all _ _ _)))))) (mss_nil)) (mss_cons (ms_if (PW.pt (mw_or (mt_val (mb_isi B.isinstance (ma_cons (me_var (i := 1) rfl (.inl v_ljust_1)) (ma_cons (me_bltn B.str (by decide +kernel) (w := .ty "str") rfl (hg := (g_ljust_str _ _ _))) ma_nil)) (hg := (g_ljust_isinstance _ _ _)))) (mw_one_or (mt_cmp op_isN os_isN (me_var (i := 1) rfl (.inl v_ljust_1)) (me_non) (nomark _))))) (mss_one (ms_ret (me_and (me_cmp (op_eqM hr.units) os_eq (mb_isi B.isinstance (ma_cons (me_var (i := 0) rfl (.inl v_ljust_0)) (ma_cons (me_bltn B.str (by decide +kernel) (w := .ty "str") rfl (hg := (g_ljust_str _ _ _))) ma_nil)) (hg := (g_ljust_isinstance _ _ _))) (mb_isi B.isinstance (ma_cons (me_var (i := 1) rfl (.inl v_ljust_1)) (ma_cons (me_bltn B.str (by decide +kernel) (w := .ty "str") rfl (hg := (g_ljust_str _ _ _))) ma_nil)) (hg := (g_ljust_isinstance _ _ _))) (nomark _)) (me_one (me_cmp (op_eqM hr.units) os_eq (me_var (i := 0) rfl (.inl v_ljust_0)) (me_var (i := 1) rfl (.inl v_ljust_1)) (nomark _)))))) (mss_nil)) (mss_cons (ms_if (PW.pt (mw_or (mt_not (mt_val (mb_isi B.isinstance (ma_cons (me_var (i := 0) rfl (.inl v_ljust_0)) (ma_cons (me_bltn B.int (by decide +kernel) (w := .ty "int") rfl (hg := (g_ljust_int _ _ _))) ma_nil)) (hg := (g_ljust_isinstance _ _ _))))) (mw_one_or (mt_cmp (op_neM hr.units) os_ne (mb_isi B.isinstance (ma_cons (me_var (i := 0) rfl (.inl v_ljust_0)) (ma_cons (me_bltn B.bool (by decide +kernel) (w := .ty "bool") rfl (hg := (g_ljust_bool _ _ _))) ma_nil)) (hg := (g_ljust_isinstance _ _ _))) (mb_isi B.isinstance (ma_cons (me_var (i := 1) rfl (.inl v_ljust_1)) (ma_cons (me_bltn B.bool (by decide +kernel) (w := .ty "bool") rfl (hg := (g_ljust_bool _ _ _))) ma_nil)) (hg := (g_ljust_isinstance _ _ _))) (nomark _))))) (mss_one (ms_ret (me_bl))) (mss_nil)) (mss_one (ms_ret (me_cmp (op_eqM hr.units) os_eq (me_var (i := 0) rfl (.inl v_ljust_0)) (me_var (i := 1) rfl (.inl v_ljust_1)) (nomark _))))))

abbrev s_lfilled : Stmt := top 47
theorem sc_lfilled : FnScope ["_law_cell_here", "_law_salt", "_law_front", "_law_draws_here", "_law_rest", "_law_k", "_law_one"] ["_law_cell_here", "_law_salt", "_law_front"] (defScope s_lfilled) := ⟨rfl, rfl, rfl, by decide +kernel, rfl, by decide +kernel, by decide +kernel⟩
theorem v_lfilled_0 : (defScope s_lfilled).names.lookup ("_law_cell_here" : Str) = some NameKind.local := by decide +kernel
theorem v_lfilled_1 : (defScope s_lfilled).names.lookup ("_law_salt" : Str) = some NameKind.local := by decide +kernel
theorem v_lfilled_2 : (defScope s_lfilled).names.lookup ("_law_front" : Str) = some NameKind.local := by decide +kernel
theorem v_lfilled_3 : (defScope s_lfilled).names.lookup ("_law_draws_here" : Str) = some NameKind.local := by decide +kernel
theorem v_lfilled_4 : (defScope s_lfilled).names.lookup ("_law_rest" : Str) = some NameKind.local := by decide +kernel
theorem v_lfilled_5 : (defScope s_lfilled).names.lookup ("_law_k" : Str) = some NameKind.local := by decide +kernel
theorem v_lfilled_6 : (defScope s_lfilled).names.lookup ("_law_one" : Str) = some NameKind.local := by decide +kernel
theorem g_lfilled_law_draws (L a : Addr) (cd : Value) : (PyProof.Rows.envOfC "_law_filled" (defScope s_lfilled) L a cd).kindOf ("_law_draws" : Str) = some NameKind.globalImplicit := rfl
theorem g_lfilled_range (L a : Addr) (cd : Value) : (PyProof.Rows.envOfC "_law_filled" (defScope s_lfilled) L a cd).kindOf ("range" : Str) = some NameKind.globalImplicit := rfl
theorem g_lfilled_list (L a : Addr) (cd : Value) : (PyProof.Rows.envOfC "_law_filled" (defScope s_lfilled) L a cd).kindOf ("list" : Str) = some NameKind.globalImplicit := rfl
theorem g_lfilled_len (L a : Addr) (cd : Value) : (PyProof.Rows.envOfC "_law_filled" (defScope s_lfilled) L a cd).kindOf ("len" : Str) = some NameKind.globalImplicit := rfl
theorem ok_lfilled {P : Program} {w : World} {K : PySem.W.Frag} {mg : Str → Option Value} {base : Heap} {f : Addr} {fd : FuncData} (F : Fun K "_law_filled" "_law_filled" s_lfilled f fd) (B : Bn mg) (h_ldraws : Fd P w K mg base "_law_draws" 4 ["_law_cell_here", "_law_salt", "_law_widths"] [] f_ldraws)    :
    FnOk P w K mg base (L2N.CX P w) 6 f fd ["_law_cell_here", "_law_salt", "_law_front"] (spF K mg 3 [] f_lfilled) := by
  refine fn_ok F sc_lfilled (by decide) (by decide) fun cdv A outer s H E hr => ?_
  have nd := sc_lfilled.nd
  have tk : L2N.Takes (cxOf (L2N.CX P w) P w K mg base ["_law_cell_here", "_law_salt", "_law_front", "_law_draws_here", "_law_rest", "_law_k", "_law_one"] "_law_filled" (defScope s_lfilled) f cdv A outer s H E) (fun cls d _ H => E cls d H) := L2N.takes_of rfl rfl rfl rfl
  have pn : PassesOwn (model P w) (cxOf (L2N.CX P w) P w K mg base ["_law_cell_here", "_law_salt", "_law_front", "_law_draws_here", "_law_rest", "_law_k", "_law_one"] "_law_filled" (defScope s_lfilled) f cdv A outer s H E).A (cxOf (L2N.CX P w) P w K mg base ["_law_cell_here", "_law_salt", "_law_front", "_law_draws_here", "_law_rest", "_law_k", "_law_one"] "_law_filled" (defScope s_lfilled) f cdv A outer s H E).env (cxOf (L2N.CX P w) P w K mg base ["_law_cell_here", "_law_salt", "_law_front", "_law_draws_here", "_law_rest", "_law_k", "_law_one"] "_law_filled" (defScope s_lfilled) f cdv A outer s H E).xe := passes_of rfl
  unfold m_lfilled
  exact mss_cons (ms_set (i := 3) nd rfl (.inl v_lfilled_3) (me_fz (mf_call h_ldraws hr (by decide) tk (ma_cons (me_var (i := 0) rfl (.inl v_lfilled_0)) (ma_cons (me_var (i := 1) rfl (.inl v_lfilled_1)) (ma_cons (me_lst (ma_cons (me_int) (ma_cons (me_int) (ma_cons (me_int) (ma_cons (me_int) (ma_cons (me_int) (ma_cons (me_int) (ma_nil)))))))) (ma_nil)))) (lng_cons (lng_cons (lng_cons lng_nil))) (hg := (g_lfilled_law_draws _ _ _))))) (mss_cons (ms_setO (i := 4) nd rfl (.inl v_lfilled_4) (mo_mult (me_lst (ma_cons (me_int) (ma_nil))) (me_int))) (mss_cons (ms_if (mt_cmp (op_eqM hr.units) os_eq (me_ix (me_var (i := 3) rfl (.inl v_lfilled_3)) (me_int)) (me_int) (nomark _)) (mss_one (ms_setO (i := 4) nd rfl (.inl v_lfilled_4) (mo_mult (me_lst (ma_cons (me_int) (ma_nil))) (me_int)))) (mss_nil)) (mss_cons (ms_if (mt_cmp (op_eqM hr.units) os_eq (me_ix (me_var (i := 3) rfl (.inl v_lfilled_3)) (me_int)) (me_int) (nomark _)) (mss_one (ms_setO (i := 4) nd rfl (.inl v_lfilled_4) (mo_mult (me_lst (ma_cons (me_ix (me_var (i := 3) rfl (.inl v_lfilled_3)) (me_int)) (ma_nil))) (me_int)))) (mss_nil)) (mss_cons (ms_if (mt_cmp op_gt os_gt (me_ix (me_var (i := 3) rfl (.inl v_lfilled_3)) (me_int)) (me_int) (nomark _)) (mss_cons (ms_setO (i := 4) nd rfl (.inl v_lfilled_4) (mo_lst (ma_nil))) (mss_one (ms_for pn rfl (mi_r1 B.range (ma_cons (me_int) (ma_nil)) (hg := (g_lfilled_range _ _ _))) (mg_name (i := 5) nd rfl (.inl v_lfilled_5)) (mss_cons (ms_set (i := 6) nd rfl (.inl v_lfilled_6) (me_add (me_mul (me_add (me_mul (me_ix (me_var (i := 3) rfl (.inl v_lfilled_3)) (me_int)) (me_var (i := 5) rfl (.inl v_lfilled_5))) (me_ix (me_var (i := 3) rfl (.inl v_lfilled_3)) (me_int))) (me_var (i := 5) rfl (.inl v_lfilled_5))) (me_ix (me_var (i := 3) rfl (.inl v_lfilled_3)) (me_int)))) (mss_one (ms_expr (me_lm1 ls_append PySem.F.slot_list_append PySem.F.type_list_append mt_append (i := 4) rfl (.inl v_lfilled_4) (ma_cons (me_mod (me_div (me_mod (me_var (i := 6) rfl (.inl v_lfilled_6)) (me_int)) (me_int)) (me_int)) (ma_nil))))))))) (mss_nil)) (mss_one (ms_ret (me_tup (ma_cons (me_add (mb_list B.list (ma_cons (me_var (i := 2) rfl (.inl v_lfilled_2)) (ma_nil)) (hg := (g_lfilled_list _ _ _))) (me_slV (i := 4) rfl (.inl v_lfilled_4) (mp_some (mb_len B.len (ma_cons (me_var (i := 2) rfl (.inl v_lfilled_2)) (ma_nil)) (hg := (g_lfilled_len _ _ _)))) (mp_none))) (ma_cons (me_ix (me_var (i := 3) rfl (.inl v_lfilled_3)) (me_int)) (ma_nil))))))))))

abbrev s_lrun : Stmt := top 46
theorem sc_lrun : FnScope ["_law_program", "_law_cells", "_law_mark", "_law_row", "_law_tables", "_law_rows", "_law_word", "_law_a", "_law_total"] ["_law_program", "_law_cells", "_law_mark"] (defScope s_lrun) := ⟨rfl, rfl, rfl, by decide +kernel, rfl, by decide +kernel, by decide +kernel⟩
theorem v_lrun_0 : (defScope s_lrun).names.lookup ("_law_program" : Str) = some NameKind.local := by decide +kernel
theorem v_lrun_1 : (defScope s_lrun).names.lookup ("_law_cells" : Str) = some NameKind.local := by decide +kernel
theorem v_lrun_2 : (defScope s_lrun).names.lookup ("_law_mark" : Str) = some NameKind.local := by decide +kernel
theorem v_lrun_3 : (defScope s_lrun).names.lookup ("_law_row" : Str) = some NameKind.local := by decide +kernel
theorem v_lrun_4 : (defScope s_lrun).names.lookup ("_law_tables" : Str) = some NameKind.local := by decide +kernel
theorem v_lrun_5 : (defScope s_lrun).names.lookup ("_law_rows" : Str) = some NameKind.local := by decide +kernel
theorem v_lrun_6 : (defScope s_lrun).names.lookup ("_law_word" : Str) = some NameKind.local := by decide +kernel
theorem v_lrun_7 : (defScope s_lrun).names.lookup ("_law_a" : Str) = some NameKind.local := by decide +kernel
theorem v_lrun_8 : (defScope s_lrun).names.lookup ("_law_total" : Str) = some NameKind.local := by decide +kernel
theorem g_lrun_list (L a : Addr) (cd : Value) : (PyProof.Rows.envOfC "_law_run" (defScope s_lrun) L a cd).kindOf ("list" : Str) = some NameKind.globalImplicit := rfl
theorem g_lrun_int (L a : Addr) (cd : Value) : (PyProof.Rows.envOfC "_law_run" (defScope s_lrun) L a cd).kindOf ("int" : Str) = some NameKind.globalImplicit := rfl
theorem ok_lrun {P : Program} {w : World} {K : PySem.W.Frag} {mg : Str → Option Value} {base : Heap} {f : Addr} {fd : FuncData} (F : Fun K "_law_run" "_law_run" s_lrun f fd) (B : Bn mg)     :
    FnOk P w K mg base (L2N.CX P w) 2 f fd ["_law_program", "_law_cells", "_law_mark"] (spF K mg 3 [] f_lrun) := by
  refine fn_ok F sc_lrun (by decide) (by decide) fun cdv A outer s H E hr => ?_
  have nd := sc_lrun.nd
  have tk : L2N.Takes (cxOf (L2N.CX P w) P w K mg base ["_law_program", "_law_cells", "_law_mark", "_law_row", "_law_tables", "_law_rows", "_law_word", "_law_a", "_law_total"] "_law_run" (defScope s_lrun) f cdv A outer s H E) (fun cls d _ H => E cls d H) := L2N.takes_of rfl rfl rfl rfl
  have pn : PassesOwn (model P w) (cxOf (L2N.CX P w) P w K mg base ["_law_program", "_law_cells", "_law_mark", "_law_row", "_law_tables", "_law_rows", "_law_word", "_law_a", "_law_total"] "_law_run" (defScope s_lrun) f cdv A outer s H E).A (cxOf (L2N.CX P w) P w K mg base ["_law_program", "_law_cells", "_law_mark", "_law_row", "_law_tables", "_law_rows", "_law_word", "_law_a", "_law_total"] "_law_run" (defScope s_lrun) f cdv A outer s H E).env (cxOf (L2N.CX P w) P w K mg base ["_law_program", "_law_cells", "_law_mark", "_law_row", "_law_tables", "_law_rows", "_law_word", "_law_a", "_law_total"] "_law_run" (defScope s_lrun) f cdv A outer s H E).xe := passes_of rfl
  unfold m_lrun
  exact mss_cons (ms_asg (me_var (i := 0) rfl (.inl v_lrun_0)) (mg_tup rfl (mgs_cons (mg_name (i := 4) nd rfl (.inl v_lrun_4)) (mgs_cons (mg_name (i := 5) nd rfl (.inl v_lrun_5)) (mgs_nil))))) (mss_cons (ms_setO (i := 1) nd rfl (.inl v_lrun_1) (mbo_list B.list (ma_cons (me_var (i := 1) rfl (.inl v_lrun_1)) (ma_nil)) (hg := (g_lrun_list _ _ _)))) (mss_cons (ms_for pn rfl (mi_val (me_var (i := 5) rfl (.inl v_lrun_5))) (mg_name (i := 3) nd rfl (.inl v_lrun_3)) (mss_cons (ms_set (i := 6) nd rfl (.inl v_lrun_6) (me_ix (me_var (i := 3) rfl (.inl v_lrun_3)) (me_int))) (mss_cons (ms_set (i := 7) nd rfl (.inl v_lrun_7) (me_ix (me_var (i := 3) rfl (.inl v_lrun_3)) (me_int))) (mss_one (ms_if (mt_cmp (op_eqM hr.units) os_eq (me_var (i := 6) rfl (.inl v_lrun_6)) (me_str) (nomark _)) (mss_one (ms_setIx (i := 1) rfl (.inl v_lrun_1) (me_ixV (i := 1) rfl (.inl v_lrun_1) (me_ix (me_var (i := 3) rfl (.inl v_lrun_3)) (me_int))) (me_var (i := 7) rfl (.inl v_lrun_7)))) (mss_one (ms_if (mt_cmp (op_eqM hr.units) os_eq (me_var (i := 6) rfl (.inl v_lrun_6)) (me_str) (nomark _)) (mss_one (ms_setIx (i := 1) rfl (.inl v_lrun_1) (me_ix (me_ix (me_var (i := 4) rfl (.inl v_lrun_4)) (me_ix (me_var (i := 3) rfl (.inl v_lrun_3)) (me_int))) (me_ixV (i := 1) rfl (.inl v_lrun_1) (me_var (i := 7) rfl (.inl v_lrun_7)))) (me_var (i := 7) rfl (.inl v_lrun_7)))) (mss_one (ms_if (PW.pt (mw_or (mt_cmp (op_eqM hr.units) os_eq (me_var (i := 6) rfl (.inl v_lrun_6)) (me_str) (nomark _)) (mw_one_or (mt_cmp (op_eqM hr.units) os_eq (me_var (i := 6) rfl (.inl v_lrun_6)) (me_str) (nomark _))))) (mss_cons (ms_set (i := 8) nd rfl (.inl v_lrun_8) (me_add (me_add (me_ixV (i := 1) rfl (.inl v_lrun_1) (me_var (i := 7) rfl (.inl v_lrun_7))) (me_ixV (i := 1) rfl (.inl v_lrun_1) (me_ix (me_var (i := 3) rfl (.inl v_lrun_3)) (me_int)))) (me_mul (me_var (i := 2) rfl (.inl v_lrun_2)) (mb_int B.int (ma_cons (me_cmp (op_eqM hr.units) os_eq (me_var (i := 6) rfl (.inl v_lrun_6)) (me_str) (nomark _)) (ma_nil)) (hg := (g_lrun_int _ _ _)))))) (mss_cons (ms_setIx (i := 1) rfl (.inl v_lrun_1) (me_mod (me_var (i := 8) rfl (.inl v_lrun_8)) (me_int)) (me_var (i := 7) rfl (.inl v_lrun_7))) (mss_one (ms_set (i := 2) nd rfl (.inl v_lrun_2) (me_div (me_var (i := 8) rfl (.inl v_lrun_8)) (me_int)))))) (mss_one (ms_if (mt_cmp (op_eqM hr.units) os_eq (me_var (i := 6) rfl (.inl v_lrun_6)) (me_str) (nomark _)) (mss_one (ms_setIx (i := 1) rfl (.inl v_lrun_1) (me_ix (me_var (i := 3) rfl (.inl v_lrun_3)) (me_int)) (me_var (i := 7) rfl (.inl v_lrun_7)))) (mss_one (ms_if (mt_cmp (op_eqM hr.units) os_eq (me_var (i := 6) rfl (.inl v_lrun_6)) (me_str) (nomark _)) (mss_one (ms_setIx (i := 1) rfl (.inl v_lrun_1) (me_bitand (me_ixV (i := 1) rfl (.inl v_lrun_1) (me_var (i := 7) rfl (.inl v_lrun_7))) (me_ixV (i := 1) rfl (.inl v_lrun_1) (me_ix (me_var (i := 3) rfl (.inl v_lrun_3)) (me_int)))) (me_var (i := 7) rfl (.inl v_lrun_7)))) (mss_one (ms_if (mt_cmp (op_eqM hr.units) os_eq (me_var (i := 6) rfl (.inl v_lrun_6)) (me_str) (nomark _)) (mss_one (ms_setIx (i := 1) rfl (.inl v_lrun_1) (me_bitor (me_ixV (i := 1) rfl (.inl v_lrun_1) (me_var (i := 7) rfl (.inl v_lrun_7))) (me_ixV (i := 1) rfl (.inl v_lrun_1) (me_ix (me_var (i := 3) rfl (.inl v_lrun_3)) (me_int)))) (me_var (i := 7) rfl (.inl v_lrun_7)))) (mss_one (ms_if (mt_cmp (op_eqM hr.units) os_eq (me_var (i := 6) rfl (.inl v_lrun_6)) (me_str) (nomark _)) (mss_cons (ms_set (i := 8) nd rfl (.inl v_lrun_8) (me_add (me_mul (me_int) (me_ixV (i := 1) rfl (.inl v_lrun_1) (me_var (i := 7) rfl (.inl v_lrun_7)))) (me_var (i := 2) rfl (.inl v_lrun_2)))) (mss_cons (ms_setIx (i := 1) rfl (.inl v_lrun_1) (me_mod (me_var (i := 8) rfl (.inl v_lrun_8)) (me_int)) (me_var (i := 7) rfl (.inl v_lrun_7))) (mss_one (ms_set (i := 2) nd rfl (.inl v_lrun_2) (me_div (me_var (i := 8) rfl (.inl v_lrun_8)) (me_int)))))) (mss_one (ms_if (mt_cmp (op_eqM hr.units) os_eq (me_var (i := 6) rfl (.inl v_lrun_6)) (me_str) (nomark _)) (mss_cons (ms_set (i := 8) nd rfl (.inl v_lrun_8) (me_add (me_ixV (i := 1) rfl (.inl v_lrun_1) (me_var (i := 7) rfl (.inl v_lrun_7))) (me_mul (me_int) (me_var (i := 2) rfl (.inl v_lrun_2))))) (mss_cons (ms_setIx (i := 1) rfl (.inl v_lrun_1) (me_div (me_var (i := 8) rfl (.inl v_lrun_8)) (me_int)) (me_var (i := 7) rfl (.inl v_lrun_7))) (mss_one (ms_set (i := 2) nd rfl (.inl v_lrun_2) (me_mod (me_var (i := 8) rfl (.inl v_lrun_8)) (me_int)))))) (mss_one (ms_set (i := 2) nd rfl (.inl v_lrun_2) (me_var (i := 7) rfl (.inl v_lrun_7))))))))))))))))))))))) (mss_one (ms_ret (me_tup (ma_cons (me_var (i := 1) rfl (.inl v_lrun_1)) (ma_cons (me_var (i := 2) rfl (.inl v_lrun_2)) (ma_nil))))))))

abbrev s_lafter : Stmt := top 48
theorem sc_lafter : FnScope ["_law_program", "_law_front", "_law_cell_here", "_law_salt", "_law_many", "_law_cells", "_law_mark"] ["_law_program", "_law_front", "_law_cell_here", "_law_salt", "_law_many"] (defScope s_lafter) := ⟨rfl, rfl, rfl, by decide +kernel, rfl, by decide +kernel, by decide +kernel⟩
theorem v_lafter_0 : (defScope s_lafter).names.lookup ("_law_program" : Str) = some NameKind.local := by decide +kernel
theorem v_lafter_1 : (defScope s_lafter).names.lookup ("_law_front" : Str) = some NameKind.local := by decide +kernel
theorem v_lafter_2 : (defScope s_lafter).names.lookup ("_law_cell_here" : Str) = some NameKind.local := by decide +kernel
theorem v_lafter_3 : (defScope s_lafter).names.lookup ("_law_salt" : Str) = some NameKind.local := by decide +kernel
theorem v_lafter_4 : (defScope s_lafter).names.lookup ("_law_many" : Str) = some NameKind.local := by decide +kernel
theorem v_lafter_5 : (defScope s_lafter).names.lookup ("_law_cells" : Str) = some NameKind.local := by decide +kernel
theorem v_lafter_6 : (defScope s_lafter).names.lookup ("_law_mark" : Str) = some NameKind.local := by decide +kernel
theorem g_lafter_law_filled (L a : Addr) (cd : Value) : (PyProof.Rows.envOfC "_law_after" (defScope s_lafter) L a cd).kindOf ("_law_filled" : Str) = some NameKind.globalImplicit := rfl
theorem g_lafter_law_run (L a : Addr) (cd : Value) : (PyProof.Rows.envOfC "_law_after" (defScope s_lafter) L a cd).kindOf ("_law_run" : Str) = some NameKind.globalImplicit := rfl
theorem g_lafter_tuple (L a : Addr) (cd : Value) : (PyProof.Rows.envOfC "_law_after" (defScope s_lafter) L a cd).kindOf ("tuple" : Str) = some NameKind.globalImplicit := rfl
theorem ok_lafter {P : Program} {w : World} {K : PySem.W.Frag} {mg : Str → Option Value} {base : Heap} {f : Addr} {fd : FuncData} (F : Fun K "_law_after" "_law_after" s_lafter f fd) (B : Bn mg) (h_lfilled : Fd P w K mg base "_law_filled" 6 ["_law_cell_here", "_law_salt", "_law_front"] [] f_lfilled) (h_lrun : Fd P w K mg base "_law_run" 2 ["_law_program", "_law_cells", "_law_mark"] [] f_lrun)    :
    FnOk P w K mg base (L2N.CX P w) 8 f fd ["_law_program", "_law_front", "_law_cell_here", "_law_salt", "_law_many"] (spF K mg 5 [] f_lafter) := by
  refine fn_ok F sc_lafter (by decide) (by decide) fun cdv A outer s H E hr => ?_
  have nd := sc_lafter.nd
  have tk : L2N.Takes (cxOf (L2N.CX P w) P w K mg base ["_law_program", "_law_front", "_law_cell_here", "_law_salt", "_law_many", "_law_cells", "_law_mark"] "_law_after" (defScope s_lafter) f cdv A outer s H E) (fun cls d _ H => E cls d H) := L2N.takes_of rfl rfl rfl rfl
  have pn : PassesOwn (model P w) (cxOf (L2N.CX P w) P w K mg base ["_law_program", "_law_front", "_law_cell_here", "_law_salt", "_law_many", "_law_cells", "_law_mark"] "_law_after" (defScope s_lafter) f cdv A outer s H E).A (cxOf (L2N.CX P w) P w K mg base ["_law_program", "_law_front", "_law_cell_here", "_law_salt", "_law_many", "_law_cells", "_law_mark"] "_law_after" (defScope s_lafter) f cdv A outer s H E).env (cxOf (L2N.CX P w) P w K mg base ["_law_program", "_law_front", "_law_cell_here", "_law_salt", "_law_many", "_law_cells", "_law_mark"] "_law_after" (defScope s_lafter) f cdv A outer s H E).xe := passes_of rfl
  unfold m_lafter
  exact mss_cons (ms_asg (me_fz (mf_call h_lfilled hr (by decide) tk (ma_cons (me_var (i := 2) rfl (.inl v_lafter_2)) (ma_cons (me_var (i := 3) rfl (.inl v_lafter_3)) (ma_cons (me_var (i := 1) rfl (.inl v_lafter_1)) (ma_nil)))) (lng_cons (lng_cons (lng_cons lng_nil))) (hg := (g_lafter_law_filled _ _ _)))) (mg_tup rfl (mgs_cons (mg_name (i := 5) nd rfl (.inl v_lafter_5)) (mgs_cons (mg_name (i := 6) nd rfl (.inl v_lafter_6)) (mgs_nil))))) (mss_cons (ms_asg (me_fz (mf_call h_lrun hr (by decide) tk (ma_cons (me_var (i := 0) rfl (.inl v_lafter_0)) (ma_cons (me_var (i := 5) rfl (.inl v_lafter_5)) (ma_cons (me_var (i := 6) rfl (.inl v_lafter_6)) (ma_nil)))) (lng_cons (lng_cons (lng_cons lng_nil))) (hg := (g_lafter_law_run _ _ _)))) (mg_tup rfl (mgs_cons (mg_name (i := 5) nd rfl (.inl v_lafter_5)) (mgs_cons (mg_name (i := 6) nd rfl (.inl v_lafter_6)) (mgs_nil))))) (mss_one (ms_ret (me_tup (ma_cons (mb_tuple B.tuple (ma_cons (me_sl (me_var (i := 5) rfl (.inl v_lafter_5)) (mp_none) (mp_some (me_var (i := 4) rfl (.inl v_lafter_4)))) (ma_nil)) (hg := (g_lafter_tuple _ _ _))) (ma_cons (me_var (i := 6) rfl (.inl v_lafter_6)) (ma_nil)))))))

abbrev s_lcaught : Stmt := top 50
theorem sc_lcaught : FnScope ["_law_form_here", "_law_row", "_law_due", "_law_halves", "_law_byte", "_law_bounds", "_law_place", "_law_low", "_law_high"] ["_law_form_here", "_law_row"] (defScope s_lcaught) := ⟨rfl, rfl, rfl, by decide +kernel, rfl, by decide +kernel, by decide +kernel⟩
theorem v_lcaught_0 : (defScope s_lcaught).names.lookup ("_law_form_here" : Str) = some NameKind.local := by decide +kernel
theorem v_lcaught_1 : (defScope s_lcaught).names.lookup ("_law_row" : Str) = some NameKind.local := by decide +kernel
theorem v_lcaught_2 : (defScope s_lcaught).names.lookup ("_law_due" : Str) = some NameKind.local := by decide +kernel
theorem v_lcaught_3 : (defScope s_lcaught).names.lookup ("_law_halves" : Str) = some NameKind.local := by decide +kernel
theorem v_lcaught_4 : (defScope s_lcaught).names.lookup ("_law_byte" : Str) = some NameKind.local := by decide +kernel
theorem v_lcaught_5 : (defScope s_lcaught).names.lookup ("_law_bounds" : Str) = some NameKind.local := by decide +kernel
theorem v_lcaught_6 : (defScope s_lcaught).names.lookup ("_law_place" : Str) = some NameKind.local := by decide +kernel
theorem v_lcaught_7 : (defScope s_lcaught).names.lookup ("_law_low" : Str) = some NameKind.local := by decide +kernel
theorem v_lcaught_8 : (defScope s_lcaught).names.lookup ("_law_high" : Str) = some NameKind.local := by decide +kernel
theorem g_lcaught_len (L a : Addr) (cd : Value) : (PyProof.Rows.envOfC "_law_caught" (defScope s_lcaught) L a cd).kindOf ("len" : Str) = some NameKind.globalImplicit := rfl
theorem g_lcaught_range (L a : Addr) (cd : Value) : (PyProof.Rows.envOfC "_law_caught" (defScope s_lcaught) L a cd).kindOf ("range" : Str) = some NameKind.globalImplicit := rfl
theorem ok_lcaught {P : Program} {w : World} {K : PySem.W.Frag} {mg : Str → Option Value} {base : Heap} {f : Addr} {fd : FuncData} (F : Fun K "_law_caught" "_law_caught" s_lcaught f fd) (B : Bn mg)     :
    FnOk P w K mg base (L2N.CX P w) 2 f fd ["_law_form_here", "_law_row"] (spF K mg 2 [] f_lcaught) := by
  refine fn_ok F sc_lcaught (by decide) (by decide) fun cdv A outer s H E hr => ?_
  have nd := sc_lcaught.nd
  have tk : L2N.Takes (cxOf (L2N.CX P w) P w K mg base ["_law_form_here", "_law_row", "_law_due", "_law_halves", "_law_byte", "_law_bounds", "_law_place", "_law_low", "_law_high"] "_law_caught" (defScope s_lcaught) f cdv A outer s H E) (fun cls d _ H => E cls d H) := L2N.takes_of rfl rfl rfl rfl
  have pn : PassesOwn (model P w) (cxOf (L2N.CX P w) P w K mg base ["_law_form_here", "_law_row", "_law_due", "_law_halves", "_law_byte", "_law_bounds", "_law_place", "_law_low", "_law_high"] "_law_caught" (defScope s_lcaught) f cdv A outer s H E).A (cxOf (L2N.CX P w) P w K mg base ["_law_form_here", "_law_row", "_law_due", "_law_halves", "_law_byte", "_law_bounds", "_law_place", "_law_low", "_law_high"] "_law_caught" (defScope s_lcaught) f cdv A outer s H E).env (cxOf (L2N.CX P w) P w K mg base ["_law_form_here", "_law_row", "_law_due", "_law_halves", "_law_byte", "_law_bounds", "_law_place", "_law_low", "_law_high"] "_law_caught" (defScope s_lcaught) f cdv A outer s H E).xe := passes_of rfl
  unfold m_lcaught
  exact mss_cons (ms_setO (i := 2) nd rfl (.inl v_lcaught_2) (mo_mult (me_lst (ma_cons (me_str) (ma_nil))) (me_ix (me_var (i := 0) rfl (.inl v_lcaught_0)) (me_int)))) (mss_cons (ms_if (mt_cmp (op_eqM hr.units) os_eq (me_ix (me_var (i := 0) rfl (.inl v_lcaught_0)) (me_int)) (me_str) (nomark _)) (mss_one (ms_expr (me_lm1 ls_append PySem.F.slot_list_append PySem.F.type_list_append mt_append (i := 2) rfl (.inl v_lcaught_2) (ma_cons (me_str) (ma_nil))))) (mss_nil)) (mss_cons (ms_setO (i := 2) nd rfl (.inl v_lcaught_2) (mo_add (me_mul (me_lst (ma_cons (me_str) (ma_nil))) (me_mod (me_lenV B.len (i := 2) rfl (.inl v_lcaught_2) (hg := (g_lcaught_len _ _ _))) (me_int))) (me_var (i := 2) rfl (.inl v_lcaught_2)))) (mss_cons (ms_if (mt_cmp (op_eqM hr.units) os_eq (me_ix (me_var (i := 0) rfl (.inl v_lcaught_0)) (me_int)) (me_str) (nomark _)) (mss_cons (ms_setO (i := 2) nd rfl (.inl v_lcaught_2) (mo_mult (me_lst (ma_cons (me_str) (ma_cons (me_str) (ma_nil)))) (me_ix (me_var (i := 0) rfl (.inl v_lcaught_0)) (me_int)))) (mss_one (ms_if (mt_cmp (op_eqM hr.units) os_eq (me_ix (me_var (i := 0) rfl (.inl v_lcaught_0)) (me_int)) (me_str) (nomark _)) (mss_one (ms_setIx (i := 2) rfl (.inl v_lcaught_2) (me_str) (me_neg (me_int)))) (mss_nil)))) (mss_nil)) (mss_cons (ms_set (i := 3) nd rfl (.inl v_lcaught_3) (me_lst (ma_nil))) (mss_cons (ms_for pn rfl (mi_val (me_var (i := 1) rfl (.inl v_lcaught_1))) (mg_name (i := 4) nd rfl (.inl v_lcaught_4)) (mss_one (ms_set (i := 3) nd rfl (.inl v_lcaught_3) (me_add (me_var (i := 3) rfl (.inl v_lcaught_3)) (me_lst (ma_cons (me_div (me_var (i := 4) rfl (.inl v_lcaught_4)) (me_int)) (ma_cons (me_mod (me_var (i := 4) rfl (.inl v_lcaught_4)) (me_int)) (ma_nil)))))))) (mss_cons (ms_set (i := 5) nd rfl (.inl v_lcaught_5) (me_dict (dp_str (me_tup (ma_cons (me_int) (ma_cons (me_int) (ma_nil)))) (dp_str (me_tup (ma_cons (me_int) (ma_cons (me_int) (ma_nil)))) (dp_str (me_tup (ma_cons (me_int) (ma_cons (me_int) (ma_nil)))) (dp_str (me_tup (ma_cons (me_int) (ma_cons (me_int) (ma_nil)))) (dp_nil))))))) (mss_cons (ms_for pn rfl (mi_r1 B.range (ma_cons (me_lenV B.len (i := 2) rfl (.inl v_lcaught_2) (hg := (g_lcaught_len _ _ _))) (ma_nil)) (hg := (g_lcaught_range _ _ _))) (mg_name (i := 6) nd rfl (.inl v_lcaught_6)) (mss_cons (ms_if (mt_cmp op_ge os_ge (me_var (i := 6) rfl (.inl v_lcaught_6)) (mb_len B.len (ma_cons (me_var (i := 3) rfl (.inl v_lcaught_3)) (ma_nil)) (hg := (g_lcaught_len _ _ _))) (nomark _)) (mss_one (ms_ret (me_tup (ma_cons (me_var (i := 6) rfl (.inl v_lcaught_6)) (ma_cons (me_str) (ma_nil)))))) (mss_nil)) (mss_cons (ms_asg (me_dix hr.units (me_var (i := 5) rfl (.inl v_lcaught_5)) (me_ixV (i := 2) rfl (.inl v_lcaught_2) (me_var (i := 6) rfl (.inl v_lcaught_6)))) (mg_tup rfl (mgs_cons (mg_name (i := 7) nd rfl (.inl v_lcaught_7)) (mgs_cons (mg_name (i := 8) nd rfl (.inl v_lcaught_8)) (mgs_nil))))) (mss_one (ms_if (mt_not (mt_chain op_le os_le op_le os_le (me_var (i := 7) rfl (.inl v_lcaught_7)) (me_ix (me_var (i := 3) rfl (.inl v_lcaught_3)) (me_var (i := 6) rfl (.inl v_lcaught_6))) (me_var (i := 8) rfl (.inl v_lcaught_8)))) (mss_one (ms_ret (me_tup (ma_cons (me_var (i := 6) rfl (.inl v_lcaught_6)) (ma_cons (me_ixV (i := 2) rfl (.inl v_lcaught_2) (me_var (i := 6) rfl (.inl v_lcaught_6))) (ma_nil)))))) (mss_nil)))))) (mss_cons (ms_if (mt_cmp op_gt os_gt (mb_len B.len (ma_cons (me_var (i := 3) rfl (.inl v_lcaught_3)) (ma_nil)) (hg := (g_lcaught_len _ _ _))) (me_lenV B.len (i := 2) rfl (.inl v_lcaught_2) (hg := (g_lcaught_len _ _ _))) (nomark _)) (mss_one (ms_ret (me_tup (ma_cons (me_lenV B.len (i := 2) rfl (.inl v_lcaught_2) (hg := (g_lcaught_len _ _ _))) (ma_cons (me_str) (ma_nil)))))) (mss_nil)) (mss_one (ms_ret (me_non)))))))))))

abbrev s_lread_row : Stmt := top 51
theorem sc_lread_row : FnScope ["_law_form_here", "_law_row", "_law_halves", "_law_byte", "_law_half", "_law_number_here", "_law_figure"] ["_law_form_here", "_law_row"] (defScope s_lread_row) := ⟨rfl, rfl, rfl, by decide +kernel, rfl, by decide +kernel, by decide +kernel⟩
theorem v_lread_row_0 : (defScope s_lread_row).names.lookup ("_law_form_here" : Str) = some NameKind.local := by decide +kernel
theorem v_lread_row_1 : (defScope s_lread_row).names.lookup ("_law_row" : Str) = some NameKind.local := by decide +kernel
theorem v_lread_row_2 : (defScope s_lread_row).names.lookup ("_law_halves" : Str) = some NameKind.local := by decide +kernel
theorem v_lread_row_3 : (defScope s_lread_row).names.lookup ("_law_byte" : Str) = some NameKind.local := by decide +kernel
theorem v_lread_row_4 : (defScope s_lread_row).names.lookup ("_law_half" : Str) = some NameKind.local := by decide +kernel
theorem v_lread_row_5 : (defScope s_lread_row).names.lookup ("_law_number_here" : Str) = some NameKind.local := by decide +kernel
theorem v_lread_row_6 : (defScope s_lread_row).names.lookup ("_law_figure" : Str) = some NameKind.local := by decide +kernel
theorem g_lread_row_law_power (L a : Addr) (cd : Value) : (PyProof.Rows.envOfC "_law_read_row" (defScope s_lread_row) L a cd).kindOf ("_law_power" : Str) = some NameKind.globalImplicit := rfl
theorem ok_lread_row {P : Program} {w : World} {K : PySem.W.Frag} {mg : Str → Option Value} {base : Heap} {f : Addr} {fd : FuncData} (F : Fun K "_law_read_row" "_law_read_row" s_lread_row f fd) (B : Bn mg) (h_lpower : Fd P w K mg base "_law_power" 2 ["_law_base", "_law_many"] [] f_lpower)    :
    FnOk P w K mg base (L2N.CX P w) 4 f fd ["_law_form_here", "_law_row"] (spF K mg 2 [] f_lread_row) := by
  refine fn_ok F sc_lread_row (by decide) (by decide) fun cdv A outer s H E hr => ?_
  have nd := sc_lread_row.nd
  have tk : L2N.Takes (cxOf (L2N.CX P w) P w K mg base ["_law_form_here", "_law_row", "_law_halves", "_law_byte", "_law_half", "_law_number_here", "_law_figure"] "_law_read_row" (defScope s_lread_row) f cdv A outer s H E) (fun cls d _ H => E cls d H) := L2N.takes_of rfl rfl rfl rfl
  have pn : PassesOwn (model P w) (cxOf (L2N.CX P w) P w K mg base ["_law_form_here", "_law_row", "_law_halves", "_law_byte", "_law_half", "_law_number_here", "_law_figure"] "_law_read_row" (defScope s_lread_row) f cdv A outer s H E).A (cxOf (L2N.CX P w) P w K mg base ["_law_form_here", "_law_row", "_law_halves", "_law_byte", "_law_half", "_law_number_here", "_law_figure"] "_law_read_row" (defScope s_lread_row) f cdv A outer s H E).env (cxOf (L2N.CX P w) P w K mg base ["_law_form_here", "_law_row", "_law_halves", "_law_byte", "_law_half", "_law_number_here", "_law_figure"] "_law_read_row" (defScope s_lread_row) f cdv A outer s H E).xe := passes_of rfl
  unfold m_lread_row
  exact mss_cons (ms_set (i := 2) nd rfl (.inl v_lread_row_2) (me_lst (ma_nil))) (mss_cons (ms_for pn rfl (mi_val (me_var (i := 1) rfl (.inl v_lread_row_1))) (mg_name (i := 3) nd rfl (.inl v_lread_row_3)) (mss_one (ms_set (i := 2) nd rfl (.inl v_lread_row_2) (me_add (me_var (i := 2) rfl (.inl v_lread_row_2)) (me_lst (ma_cons (me_div (me_var (i := 3) rfl (.inl v_lread_row_3)) (me_int)) (ma_cons (me_mod (me_var (i := 3) rfl (.inl v_lread_row_3)) (me_int)) (ma_nil)))))))) (mss_cons (ms_set (i := 4) nd rfl (.inl v_lread_row_4) (me_int)) (mss_cons (ms_if (mt_cmp (op_eqM hr.units) os_eq (me_ix (me_var (i := 0) rfl (.inl v_lread_row_0)) (me_int)) (me_str) (nomark _)) (mss_cons (ms_if (mt_cmp (op_eqM hr.units) os_eq (me_ix (me_var (i := 0) rfl (.inl v_lread_row_0)) (me_int)) (me_str) (nomark _)) (mss_one (ms_set (i := 4) nd rfl (.inl v_lread_row_4) (me_ix (me_var (i := 2) rfl (.inl v_lread_row_2)) (me_neg (me_int))))) (mss_nil)) (mss_one (ms_set (i := 2) nd rfl (.inl v_lread_row_2) (me_odd (me_var (i := 2) rfl (.inl v_lread_row_2)))))) (mss_one (ms_if (mt_cmp (op_eqM hr.units) os_eq (me_ix (me_var (i := 0) rfl (.inl v_lread_row_0)) (me_int)) (me_str) (nomark _)) (mss_cons (ms_set (i := 4) nd rfl (.inl v_lread_row_4) (me_ix (me_var (i := 2) rfl (.inl v_lread_row_2)) (me_neg (me_int)))) (mss_one (ms_set (i := 2) nd rfl (.inl v_lread_row_2) (me_sl (me_var (i := 2) rfl (.inl v_lread_row_2)) (mp_none) (mp_some (me_neg (me_int))))))) (mss_nil)))) (mss_cons (ms_set (i := 5) nd rfl (.inl v_lread_row_5) (me_int)) (mss_cons (ms_for pn rfl (mi_val (me_var (i := 2) rfl (.inl v_lread_row_2))) (mg_name (i := 6) nd rfl (.inl v_lread_row_6)) (mss_one (ms_set (i := 5) nd rfl (.inl v_lread_row_5) (me_add (me_mul (me_int) (me_var (i := 5) rfl (.inl v_lread_row_5))) (me_var (i := 6) rfl (.inl v_lread_row_6)))))) (mss_cons (ms_if (mt_cmp op_inM os_in (me_var (i := 4) rfl (.inl v_lread_row_4)) (me_tup (ma_cons (me_int) (ma_cons (me_int) (ma_nil)))) rfl) (mss_one (ms_ret (me_sub (me_int) (me_var (i := 5) rfl (.inl v_lread_row_5))))) (mss_nil)) (mss_cons (ms_if (PW.pt (mw_and (mt_cmp (op_eqM hr.units) os_eq (me_ix (me_var (i := 0) rfl (.inl v_lread_row_0)) (me_int)) (me_str) (nomark _)) (mw_one_and (mt_cmp op_ge os_ge (me_var (i := 5) rfl (.inl v_lread_row_5)) (me_mul (me_int) (me_fz (mf_call h_lpower hr (by decide) tk (ma_cons (me_int) (ma_cons (me_sub (me_ix (me_var (i := 0) rfl (.inl v_lread_row_0)) (me_int)) (me_int)) (ma_nil))) (lng_cons (lng_cons lng_nil)) (hg := (g_lread_row_law_power _ _ _))))) (nomark _))))) (mss_one (ms_ret (me_sub (me_var (i := 5) rfl (.inl v_lread_row_5)) (me_fz (mf_call h_lpower hr (by decide) tk (ma_cons (me_int) (ma_cons (me_ix (me_var (i := 0) rfl (.inl v_lread_row_0)) (me_int)) (ma_nil))) (lng_cons (lng_cons lng_nil)) (hg := (g_lread_row_law_power _ _ _))))))) (mss_nil)) (mss_one (ms_ret (me_var (i := 5) rfl (.inl v_lread_row_5)))))))))))

abbrev s_lright9 : Stmt := top 53
theorem sc_lright9 : FnScope ["_law_form_here", "_law_program", "_law_row", "_law_cell_here", "_law_salt", "_law_amiss", "_law_due", "_law_number_here"] ["_law_form_here", "_law_program", "_law_row", "_law_cell_here", "_law_salt"] (defScope s_lright9) := ⟨rfl, rfl, rfl, by decide +kernel, rfl, by decide +kernel, by decide +kernel⟩
theorem v_lright9_0 : (defScope s_lright9).names.lookup ("_law_form_here" : Str) = some NameKind.local := by decide +kernel
theorem v_lright9_1 : (defScope s_lright9).names.lookup ("_law_program" : Str) = some NameKind.local := by decide +kernel
theorem v_lright9_2 : (defScope s_lright9).names.lookup ("_law_row" : Str) = some NameKind.local := by decide +kernel
theorem v_lright9_3 : (defScope s_lright9).names.lookup ("_law_cell_here" : Str) = some NameKind.local := by decide +kernel
theorem v_lright9_4 : (defScope s_lright9).names.lookup ("_law_salt" : Str) = some NameKind.local := by decide +kernel
theorem v_lright9_5 : (defScope s_lright9).names.lookup ("_law_amiss" : Str) = some NameKind.local := by decide +kernel
theorem v_lright9_6 : (defScope s_lright9).names.lookup ("_law_due" : Str) = some NameKind.local := by decide +kernel
theorem v_lright9_7 : (defScope s_lright9).names.lookup ("_law_number_here" : Str) = some NameKind.local := by decide +kernel
theorem g_lright9_caught (L a : Addr) (cd : Value) : (PyProof.Rows.envOfC "_law_right" (defScope s_lright9) L a cd).kindOf ("caught" : Str) = some NameKind.globalImplicit := rfl
theorem g_lright9_law_caught (L a : Addr) (cd : Value) : (PyProof.Rows.envOfC "_law_right" (defScope s_lright9) L a cd).kindOf ("_law_caught" : Str) = some NameKind.globalImplicit := rfl
theorem g_lright9_law_just (L a : Addr) (cd : Value) : (PyProof.Rows.envOfC "_law_right" (defScope s_lright9) L a cd).kindOf ("_law_just" : Str) = some NameKind.globalImplicit := rfl
theorem g_lright9_law_read (L a : Addr) (cd : Value) : (PyProof.Rows.envOfC "_law_right" (defScope s_lright9) L a cd).kindOf ("_law_read" : Str) = some NameKind.globalImplicit := rfl
theorem g_lright9_law_read_row (L a : Addr) (cd : Value) : (PyProof.Rows.envOfC "_law_right" (defScope s_lright9) L a cd).kindOf ("_law_read_row" : Str) = some NameKind.globalImplicit := rfl
theorem g_lright9_law_after (L a : Addr) (cd : Value) : (PyProof.Rows.envOfC "_law_right" (defScope s_lright9) L a cd).kindOf ("_law_after" : Str) = some NameKind.globalImplicit := rfl
theorem ok_lright9 {P : Program} {w : World} {K : PySem.W.Frag} {mg : Str → Option Value} {base : Heap} {f : Addr} {fd : FuncData} (F : Fun K "_law_right" "_law_right" s_lright9 f fd) (B : Bn mg) (h_pcaught : Fd P w K mg base "caught" 6 ["form", "row"] [] f_pcaught) (h_ljust : Fd P w K mg base "_law_just" 10 ["_law_found", "_law_due"] [] f_ljust) (h_lcaught : Fd P w K mg base "_law_caught" 2 ["_law_form_here", "_law_row"] [] f_lcaught) (h_lread2 : Fd P w K mg base "_law_read" 10 ["_law_form_here", "_law_row"] [] f_lread2) (h_lread_row : Fd P w K mg base "_law_read_row" 4 ["_law_form_here", "_law_row"] [] f_lread_row) (h_lafter : Fd P w K mg base "_law_after" 8 ["_law_program", "_law_front", "_law_cell_here", "_law_salt", "_law_many"] [] f_lafter)    :
    FnOk P w K mg base (L2N.CX P w) 12 f fd ["_law_form_here", "_law_program", "_law_row", "_law_cell_here", "_law_salt"] (spF K mg 5 [] f_lright9) := by
  refine fn_ok F sc_lright9 (by decide) (by decide) fun cdv A outer s H E hr => ?_
  have nd := sc_lright9.nd
  have tk : L2N.Takes (cxOf (L2N.CX P w) P w K mg base ["_law_form_here", "_law_program", "_law_row", "_law_cell_here", "_law_salt", "_law_amiss", "_law_due", "_law_number_here"] "_law_right" (defScope s_lright9) f cdv A outer s H E) (fun cls d _ H => E cls d H) := L2N.takes_of rfl rfl rfl rfl
  have pn : PassesOwn (model P w) (cxOf (L2N.CX P w) P w K mg base ["_law_form_here", "_law_program", "_law_row", "_law_cell_here", "_law_salt", "_law_amiss", "_law_due", "_law_number_here"] "_law_right" (defScope s_lright9) f cdv A outer s H E).A (cxOf (L2N.CX P w) P w K mg base ["_law_form_here", "_law_program", "_law_row", "_law_cell_here", "_law_salt", "_law_amiss", "_law_due", "_law_number_here"] "_law_right" (defScope s_lright9) f cdv A outer s H E).env (cxOf (L2N.CX P w) P w K mg base ["_law_form_here", "_law_program", "_law_row", "_law_cell_here", "_law_salt", "_law_amiss", "_law_due", "_law_number_here"] "_law_right" (defScope s_lright9) f cdv A outer s H E).xe := passes_of rfl
  unfold m_lright9
  exact mss_cons (ms_set (i := 5) nd rfl (.inl v_lright9_5) (me_fz (mf_call h_pcaught hr (by decide) tk (ma_cons (me_var (i := 0) rfl (.inl v_lright9_0)) (ma_cons (me_var (i := 2) rfl (.inl v_lright9_2)) (ma_nil))) (lng_cons (lng_cons lng_nil)) (hg := (g_lright9_caught _ _ _))))) (mss_cons (ms_if (mt_not (mt_val (me_fz (mf_call h_ljust hr (by decide) tk (ma_cons (me_var (i := 5) rfl (.inl v_lright9_5)) (ma_cons (me_fz (mf_call h_lcaught hr (by decide) tk (ma_cons (me_var (i := 0) rfl (.inl v_lright9_0)) (ma_cons (me_var (i := 2) rfl (.inl v_lright9_2)) (ma_nil))) (lng_cons (lng_cons lng_nil)) (hg := (g_lright9_law_caught _ _ _)))) (ma_nil))) (lng_cons (lng_cons lng_nil)) (hg := (g_lright9_law_just _ _ _)))))) (mss_one (ms_ret (me_bl))) (mss_nil)) (mss_cons (ms_set (i := 6) nd rfl (.inl v_lright9_6) (me_int)) (mss_cons (ms_set (i := 7) nd rfl (.inl v_lright9_7) (me_fz (mf_call h_lread2 hr (by decide) tk (ma_cons (me_var (i := 0) rfl (.inl v_lright9_0)) (ma_cons (me_var (i := 2) rfl (.inl v_lright9_2)) (ma_nil))) (lng_cons (lng_cons lng_nil)) (hg := (g_lright9_law_read _ _ _))))) (mss_cons (ms_if (mt_cmp op_isN os_isN (me_var (i := 5) rfl (.inl v_lright9_5)) (me_non) (nomark _)) (mss_one (ms_if (mt_not (mt_val (me_fz (mf_call h_ljust hr (by decide) tk (ma_cons (me_var (i := 7) rfl (.inl v_lright9_7)) (ma_cons (me_tup (ma_cons (me_str) (ma_cons (me_fz (mf_call h_lread_row hr (by decide) tk (ma_cons (me_var (i := 0) rfl (.inl v_lright9_0)) (ma_cons (me_var (i := 2) rfl (.inl v_lright9_2)) (ma_nil))) (lng_cons (lng_cons lng_nil)) (hg := (g_lright9_law_read_row _ _ _)))) (ma_nil)))) (ma_nil))) (lng_cons (lng_cons lng_nil)) (hg := (g_lright9_law_just _ _ _)))))) (mss_one (ms_ret (me_bl))) (mss_nil))) (mss_cons (ms_set (i := 6) nd rfl (.inl v_lright9_6) (me_add (me_int) (me_ix (me_var (i := 5) rfl (.inl v_lright9_5)) (me_int)))) (mss_one (ms_if (mt_cmp (op_neM hr.units) os_ne (me_var (i := 7) rfl (.inl v_lright9_7)) (me_tup (ma_cons (me_str) (ma_cons (me_var (i := 5) rfl (.inl v_lright9_5)) (ma_nil)))) (nomark _)) (mss_one (ms_ret (me_bl))) (mss_nil))))) (mss_one (ms_ret (me_cmp (op_eqM hr.units) os_eq (me_fz (mf_call h_lafter hr (by decide) tk (ma_cons (me_var (i := 1) rfl (.inl v_lright9_1)) (ma_cons (me_var (i := 2) rfl (.inl v_lright9_2)) (ma_cons (me_var (i := 3) rfl (.inl v_lright9_3)) (ma_cons (me_var (i := 4) rfl (.inl v_lright9_4)) (ma_cons (me_int) (ma_nil)))))) (lng_cons (lng_cons (lng_cons (lng_cons (lng_cons lng_nil))))) (hg := (g_lright9_law_after _ _ _)))) (me_tup (ma_cons (me_tup (ma_cons (me_var (i := 6) rfl (.inl v_lright9_6)) (ma_nil))) (ma_cons (me_int) (ma_nil)))) (nomark _))))))))

abbrev s_law74 : Stmt := top 54
theorem sc_law74 : FnScope ["_law_script", "_law_form_here", "_law_row", "_law_program", "_law_at", "_law_kind", "_law_many", "_law_sign", "_law_name", "_law_dress", "_law_half", "_law_far", "_law_quarter", "_law_byte", "_law_fresh", "_law_spoilt", "_law_cell_here"] ["_law_script"] (defScope s_law74) := ⟨rfl, rfl, rfl, by decide +kernel, rfl, by decide +kernel, by decide +kernel⟩
theorem v_law74_0 : (defScope s_law74).names.lookup ("_law_script" : Str) = some NameKind.local := by decide +kernel
theorem v_law74_1 : (defScope s_law74).names.lookup ("_law_form_here" : Str) = some NameKind.local := by decide +kernel
theorem v_law74_2 : (defScope s_law74).names.lookup ("_law_row" : Str) = some NameKind.local := by decide +kernel
theorem v_law74_3 : (defScope s_law74).names.lookup ("_law_program" : Str) = some NameKind.local := by decide +kernel
theorem v_law74_4 : (defScope s_law74).names.lookup ("_law_at" : Str) = some NameKind.local := by decide +kernel
theorem v_law74_5 : (defScope s_law74).names.lookup ("_law_kind" : Str) = some NameKind.local := by decide +kernel
theorem v_law74_6 : (defScope s_law74).names.lookup ("_law_many" : Str) = some NameKind.local := by decide +kernel
theorem v_law74_7 : (defScope s_law74).names.lookup ("_law_sign" : Str) = some NameKind.local := by decide +kernel
theorem v_law74_8 : (defScope s_law74).names.lookup ("_law_name" : Str) = some NameKind.local := by decide +kernel
theorem v_law74_9 : (defScope s_law74).names.lookup ("_law_dress" : Str) = some NameKind.local := by decide +kernel
theorem v_law74_10 : (defScope s_law74).names.lookup ("_law_half" : Str) = some NameKind.local := by decide +kernel
theorem v_law74_11 : (defScope s_law74).names.lookup ("_law_far" : Str) = some NameKind.local := by decide +kernel
theorem v_law74_12 : (defScope s_law74).names.lookup ("_law_quarter" : Str) = some NameKind.local := by decide +kernel
theorem v_law74_13 : (defScope s_law74).names.lookup ("_law_byte" : Str) = some NameKind.local := by decide +kernel
theorem v_law74_14 : (defScope s_law74).names.lookup ("_law_fresh" : Str) = some NameKind.local := by decide +kernel
theorem v_law74_15 : (defScope s_law74).names.lookup ("_law_spoilt" : Str) = some NameKind.local := by decide +kernel
theorem v_law74_16 : (defScope s_law74).names.lookup ("_law_cell_here" : Str) = some NameKind.local := by decide +kernel
theorem g_law74_law_cell (L a : Addr) (cd : Value) : (PyProof.Rows.envOfC "law" (defScope s_law74) L a cd).kindOf ("_law_cell" : Str) = some NameKind.globalImplicit := rfl
theorem g_law74_law_draws (L a : Addr) (cd : Value) : (PyProof.Rows.envOfC "law" (defScope s_law74) L a cd).kindOf ("_law_draws" : Str) = some NameKind.globalImplicit := rfl
theorem g_law74_law_form (L a : Addr) (cd : Value) : (PyProof.Rows.envOfC "law" (defScope s_law74) L a cd).kindOf ("_law_form" : Str) = some NameKind.globalImplicit := rfl
theorem g_law74_law_number (L a : Addr) (cd : Value) : (PyProof.Rows.envOfC "law" (defScope s_law74) L a cd).kindOf ("_law_number" : Str) = some NameKind.globalImplicit := rfl
theorem g_law74_law_dressed (L a : Addr) (cd : Value) : (PyProof.Rows.envOfC "law" (defScope s_law74) L a cd).kindOf ("_law_dressed" : Str) = some NameKind.globalImplicit := rfl
theorem g_law74_check_rows (L a : Addr) (cd : Value) : (PyProof.Rows.envOfC "law" (defScope s_law74) L a cd).kindOf ("check_rows" : Str) = some NameKind.globalImplicit := rfl
theorem g_law74_law_right (L a : Addr) (cd : Value) : (PyProof.Rows.envOfC "law" (defScope s_law74) L a cd).kindOf ("_law_right" : Str) = some NameKind.globalImplicit := rfl
theorem g_law74_len (L a : Addr) (cd : Value) : (PyProof.Rows.envOfC "law" (defScope s_law74) L a cd).kindOf ("len" : Str) = some NameKind.globalImplicit := rfl
theorem g_law74_range (L a : Addr) (cd : Value) : (PyProof.Rows.envOfC "law" (defScope s_law74) L a cd).kindOf ("range" : Str) = some NameKind.globalImplicit := rfl
theorem ok_law74 {P : Program} {w : World} {K : PySem.W.Frag} {mg : Str → Option Value} {base : Heap} {f : Addr} {fd : FuncData} (F : Fun K "law" "law" s_law74 f fd) (B : Bn mg) (h_ldraws : Fd P w K mg base "_law_draws" 4 ["_law_cell_here", "_law_salt", "_law_widths"] [] f_ldraws) (h_lcell : Fd P w K mg base "_law_cell" 2 ["_law_script", "_law_k"] [] f_lcell) (h_lform : Fd P w K mg base "_law_form" 2 ["_law_kind", "_law_many", "_law_sign"] [] f_lform) (h_ldressed : Fd P w K mg base "_law_dressed" 8 ["_law_form_here", "_law_number_here", "_law_digit"] [] f_ldressed) (h_lnumber : Fd P w K mg base "_law_number" 6 ["_law_form_here", "_law_way", "_law_far"] [] f_lnumber) (h_pcheck_rows : Fd P w K mg base "check_rows" 6 ["form"] [] f_pcheck_rows) (h_lright9 : Fd P w K mg base "_law_right" 12 ["_law_form_here", "_law_program", "_law_row", "_law_cell_here", "_law_salt"] [] f_lright9)    :
    FnOk P w K mg base (L2N.CX P w) 14 f fd ["_law_script"] (spF K mg 1 [] f_law74) := by
  refine fn_ok F sc_law74 (by decide) (by decide) fun cdv A outer s H E hr => ?_
  have nd := sc_law74.nd
  have tk : L2N.Takes (cxOf (L2N.CX P w) P w K mg base ["_law_script", "_law_form_here", "_law_row", "_law_program", "_law_at", "_law_kind", "_law_many", "_law_sign", "_law_name", "_law_dress", "_law_half", "_law_far", "_law_quarter", "_law_byte", "_law_fresh", "_law_spoilt", "_law_cell_here"] "law" (defScope s_law74) f cdv A outer s H E) (fun cls d _ H => E cls d H) := L2N.takes_of rfl rfl rfl rfl
  have pn : PassesOwn (model P w) (cxOf (L2N.CX P w) P w K mg base ["_law_script", "_law_form_here", "_law_row", "_law_program", "_law_at", "_law_kind", "_law_many", "_law_sign", "_law_name", "_law_dress", "_law_half", "_law_far", "_law_quarter", "_law_byte", "_law_fresh", "_law_spoilt", "_law_cell_here"] "law" (defScope s_law74) f cdv A outer s H E).A (cxOf (L2N.CX P w) P w K mg base ["_law_script", "_law_form_here", "_law_row", "_law_program", "_law_at", "_law_kind", "_law_many", "_law_sign", "_law_name", "_law_dress", "_law_half", "_law_far", "_law_quarter", "_law_byte", "_law_fresh", "_law_spoilt", "_law_cell_here"] "law" (defScope s_law74) f cdv A outer s H E).env (cxOf (L2N.CX P w) P w K mg base ["_law_script", "_law_form_here", "_law_row", "_law_program", "_law_at", "_law_kind", "_law_many", "_law_sign", "_law_name", "_law_dress", "_law_half", "_law_far", "_law_quarter", "_law_byte", "_law_fresh", "_law_spoilt", "_law_cell_here"] "law" (defScope s_law74) f cdv A outer s H E).xe := passes_of rfl
  unfold m_law74
  exact mss_cons (ms_asg (me_fz (mf_call h_ldraws hr (by decide) tk (ma_cons (me_fz (mf_call h_lcell hr (by decide) tk (ma_cons (me_var (i := 0) rfl (.inl v_law74_0)) (ma_cons (me_int) (ma_nil))) (lng_cons (lng_cons lng_nil)) (hg := (g_law74_law_cell _ _ _)))) (ma_cons (me_int) (ma_cons (me_lst (ma_cons (me_int) (ma_cons (me_int) (ma_cons (me_int) (ma_cons (me_int) (ma_cons (me_int) (ma_cons (me_int) (ma_nil)))))))) (ma_nil)))) (lng_cons (lng_cons (lng_cons lng_nil))) (hg := (g_law74_law_draws _ _ _)))) (mg_tup rfl (mgs_cons (mg_name (i := 5) nd rfl (.inl v_law74_5)) (mgs_cons (mg_name (i := 6) nd rfl (.inl v_law74_6)) (mgs_cons (mg_name (i := 7) nd rfl (.inl v_law74_7)) (mgs_cons (mg_name (i := 8) nd rfl (.inl v_law74_8)) (mgs_cons (mg_name (i := 9) nd rfl (.inl v_law74_9)) (mgs_cons (mg_name (i := 10) nd rfl (.inl v_law74_10)) (mgs_nil))))))))) (mss_cons (ms_asg (me_fz (mf_call h_ldraws hr (by decide) tk (ma_cons (me_fz (mf_call h_lcell hr (by decide) tk (ma_cons (me_var (i := 0) rfl (.inl v_law74_0)) (ma_cons (me_int) (ma_nil))) (lng_cons (lng_cons lng_nil)) (hg := (g_law74_law_cell _ _ _)))) (ma_cons (me_int) (ma_cons (me_lst (ma_cons (me_pow (me_int) (me_int)) (ma_cons (me_int) (ma_nil)))) (ma_nil)))) (lng_cons (lng_cons (lng_cons lng_nil))) (hg := (g_law74_law_draws _ _ _)))) (mg_tup rfl (mgs_cons (mg_name (i := 11) nd rfl (.inl v_law74_11)) (mgs_cons (mg_name (i := 12) nd rfl (.inl v_law74_12)) (mgs_nil))))) (mss_cons (ms_set (i := 1) nd rfl (.inl v_law74_1) (me_fz (mf_call h_lform hr (by decide) tk (ma_cons (me_var (i := 5) rfl (.inl v_law74_5)) (ma_cons (me_var (i := 6) rfl (.inl v_law74_6)) (ma_cons (me_var (i := 7) rfl (.inl v_law74_7)) (ma_nil)))) (lng_cons (lng_cons (lng_cons lng_nil))) (hg := (g_law74_law_form _ _ _))))) (mss_cons (ms_set (i := 2) nd rfl (.inl v_law74_2) (me_fz (mf_call h_ldressed hr (by decide) tk (ma_cons (me_var (i := 1) rfl (.inl v_law74_1)) (ma_cons (me_fz (mf_call h_lnumber hr (by decide) tk (ma_cons (me_var (i := 1) rfl (.inl v_law74_1)) (ma_cons (me_var (i := 8) rfl (.inl v_law74_8)) (ma_cons (me_var (i := 11) rfl (.inl v_law74_11)) (ma_nil)))) (lng_cons (lng_cons (lng_cons lng_nil))) (hg := (g_law74_law_number _ _ _)))) (ma_cons (me_var (i := 9) rfl (.inl v_law74_9)) (ma_nil)))) (lng_cons (lng_cons (lng_cons lng_nil))) (hg := (g_law74_law_dressed _ _ _))))) (mss_cons (ms_set (i := 3) nd rfl (.inl v_law74_3) (me_fz (mf_call h_pcheck_rows hr (by decide) tk (ma_cons (me_var (i := 1) rfl (.inl v_law74_1)) (ma_nil)) (lng_cons lng_nil) (hg := (g_law74_check_rows _ _ _))))) (mss_cons (ms_if (mt_not (mt_val (me_fz (mf_call h_lright9 hr (by decide) tk (ma_cons (me_var (i := 1) rfl (.inl v_law74_1)) (ma_cons (me_var (i := 3) rfl (.inl v_law74_3)) (ma_cons (me_var (i := 2) rfl (.inl v_law74_2)) (ma_cons (me_fz (mf_call h_lcell hr (by decide) tk (ma_cons (me_var (i := 0) rfl (.inl v_law74_0)) (ma_cons (me_int) (ma_nil))) (lng_cons (lng_cons lng_nil)) (hg := (g_law74_law_cell _ _ _)))) (ma_cons (me_int) (ma_nil)))))) (lng_cons (lng_cons (lng_cons (lng_cons (lng_cons lng_nil))))) (hg := (g_law74_law_right _ _ _)))))) (mss_one (ms_ret (me_bl))) (mss_nil)) (mss_cons (ms_for pn rfl (mi_r1 B.range (ma_cons (me_mul (me_int) (mb_len B.len (ma_cons (me_var (i := 2) rfl (.inl v_law74_2)) (ma_nil)) (hg := (g_law74_len _ _ _)))) (ma_nil)) (hg := (g_law74_range _ _ _))) (mg_name (i := 4) nd rfl (.inl v_law74_4)) (mss_cons (ms_set (i := 13) nd rfl (.inl v_law74_13) (me_ix (me_var (i := 2) rfl (.inl v_law74_2)) (me_div (me_var (i := 4) rfl (.inl v_law74_4)) (me_int)))) (mss_cons (ms_set (i := 14) nd rfl (.inl v_law74_14) (me_ix (me_lst (ma_cons (me_add (me_mul (me_int) (me_var (i := 10) rfl (.inl v_law74_10))) (me_mod (me_var (i := 13) rfl (.inl v_law74_13)) (me_int))) (ma_cons (me_add (me_sub (me_var (i := 13) rfl (.inl v_law74_13)) (me_mod (me_var (i := 13) rfl (.inl v_law74_13)) (me_int))) (me_var (i := 10) rfl (.inl v_law74_10))) (ma_nil)))) (me_mod (me_var (i := 4) rfl (.inl v_law74_4)) (me_int)))) (mss_cons (ms_set (i := 15) nd rfl (.inl v_law74_15) (me_add (me_add (me_sl (me_var (i := 2) rfl (.inl v_law74_2)) (mp_none) (mp_some (me_div (me_var (i := 4) rfl (.inl v_law74_4)) (me_int)))) (me_tup (ma_cons (me_var (i := 14) rfl (.inl v_law74_14)) (ma_nil)))) (me_sl (me_var (i := 2) rfl (.inl v_law74_2)) (mp_some (me_add (me_div (me_var (i := 4) rfl (.inl v_law74_4)) (me_int)) (me_int))) (mp_none)))) (mss_cons (ms_set (i := 16) nd rfl (.inl v_law74_16) (me_fz (mf_call h_lcell hr (by decide) tk (ma_cons (me_var (i := 0) rfl (.inl v_law74_0)) (ma_cons (me_add (me_int) (me_var (i := 4) rfl (.inl v_law74_4))) (ma_nil))) (lng_cons (lng_cons lng_nil)) (hg := (g_law74_law_cell _ _ _))))) (mss_one (ms_if (PW.pt (mw_and (mt_cmp (op_eqM hr.units) os_eq (me_mod (me_var (i := 4) rfl (.inl v_law74_4)) (me_int)) (me_var (i := 12) rfl (.inl v_law74_12)) (nomark _)) (mw_one_and (mt_not (mt_val (me_fz (mf_call h_lright9 hr (by decide) tk (ma_cons (me_var (i := 1) rfl (.inl v_law74_1)) (ma_cons (me_var (i := 3) rfl (.inl v_law74_3)) (ma_cons (me_var (i := 15) rfl (.inl v_law74_15)) (ma_cons (me_var (i := 16) rfl (.inl v_law74_16)) (ma_cons (me_add (me_int) (me_var (i := 4) rfl (.inl v_law74_4))) (ma_nil)))))) (lng_cons (lng_cons (lng_cons (lng_cons (lng_cons lng_nil))))) (hg := (g_law74_law_right _ _ _))))))))) (mss_one (ms_ret (me_bl))) (mss_nil)))))))) (mss_one (ms_ret (me_bl)))))))))

theorem all_mk {l : PySem.W.OpenLaw} {w : World} {K : PySem.W.Frag} {h : Heap} {mg : Str → Option Value} {fa f0 f1 f2 f3 f4 f5 f6 f7 f8 f9 f10 f11 f12 f13 f14 f15 f16 f17 f18 f19 f20 f21 f22 f23 f24 f25 f26 f27 f28 f29 f30 f31 f32 : Addr} (X : K.In h) (G : h.Ns mainGlobals mg) (hfa : mg "law" = some (.ref fa))
    {od0 an0 od1 an1 od2 an2 od3 an3 od4 an4 od5 an5 od6 an6 od7 an7 od8 an8 od9 an9 od10 an10 od11 an11 od12 an12 od13 an13 od14 an14 od15 an15 od16 an16 od17 an17 od18 an18 od19 an19 od20 an20 od21 an21 od22 an22 od23 an23 od24 an24 od25 an25 od26 an26 od27 an27 od28 an28 od29 an29 od30 an30 od31 an31 od32 an32 : Option Addr} {sl0 sl1 sl2 sl3 sl4 sl5 sl6 sl7 sl8 sl9 sl10 sl11 sl12 sl13 sl14 sl15 sl16 sl17 sl18 sl19 sl20 sl21 sl22 sl23 sl24 sl25 sl26 sl27 sl28 sl29 sl30 sl31 sl32 : Array (Option Value)} {oc0 kV0 dc0 pm0 cd0 ct0 oc1 kV1 dc1 pm1 cd1 ct1 oc2 kV2 dc2 pm2 cd2 ct2 oc3 kV3 dc3 pm3 cd3 ct3 oc4 kV4 dc4 pm4 cd4 ct4 oc5 kV5 dc5 pm5 cd5 ct5 oc6 kV6 dc6 pm6 cd6 ct6 oc7 kV7 dc7 pm7 cd7 ct7 oc8 kV8 dc8 pm8 cd8 ct8 oc9 kV9 dc9 pm9 cd9 ct9 oc10 kV10 dc10 pm10 cd10 ct10 oc11 kV11 dc11 pm11 cd11 ct11 oc12 kV12 dc12 pm12 cd12 ct12 oc13 kV13 dc13 pm13 cd13 ct13 oc14 kV14 dc14 pm14 cd14 ct14 oc15 kV15 dc15 pm15 cd15 ct15 oc16 kV16 dc16 pm16 cd16 ct16 oc17 kV17 dc17 pm17 cd17 ct17 oc18 kV18 dc18 pm18 cd18 ct18 oc19 kV19 dc19 pm19 cd19 ct19 oc20 kV20 dc20 pm20 cd20 ct20 oc21 kV21 dc21 pm21 cd21 ct21 oc22 kV22 dc22 pm22 cd22 ct22 oc23 kV23 dc23 pm23 cd23 ct23 oc24 kV24 dc24 pm24 cd24 ct24 oc25 kV25 dc25 pm25 cd25 ct25 oc26 kV26 dc26 pm26 cd26 ct26 oc27 kV27 dc27 pm27 cd27 ct27 oc28 kV28 dc28 pm28 cd28 ct28 oc29 kV29 dc29 pm29 cd29 ct29 oc30 kV30 dc30 pm30 cd30 ct30 oc31 kV31 dc31 pm31 cd31 ct31 oc32 kV32 dc32 pm32 cd32 ct32 : Value}
    (a0 : PySem.W.nsIn K mainGlobals "_law_mixed" = some (some (.ref f0))) (l0 : K.lookup f0 = some ⟨oc0, od0, .func (PySem.W.fnOf "_law_mixed" "_law_mixed" (defArgs s_lmixed) (defBody s_lmixed) (defScope s_lmixed) .none kV0 dc0 pm0 an0 cd0 ct0), sl0⟩) (c0 : PySem.W.codeIn K cd0 "_law_mixed" = true) (k0 : PySem.W.keepIn K (.ref f0) = true)
    (a1 : PySem.W.nsIn K mainGlobals "_law_draws" = some (some (.ref f1))) (l1 : K.lookup f1 = some ⟨oc1, od1, .func (PySem.W.fnOf "_law_draws" "_law_draws" (defArgs s_ldraws) (defBody s_ldraws) (defScope s_ldraws) .none kV1 dc1 pm1 an1 cd1 ct1), sl1⟩) (c1 : PySem.W.codeIn K cd1 "_law_draws" = true) (k1 : PySem.W.keepIn K (.ref f1) = true)
    (a2 : PySem.W.nsIn K mainGlobals "_law_form" = some (some (.ref f2))) (l2 : K.lookup f2 = some ⟨oc2, od2, .func (PySem.W.fnOf "_law_form" "_law_form" (defArgs s_lform) (defBody s_lform) (defScope s_lform) .none kV2 dc2 pm2 an2 cd2 ct2), sl2⟩) (c2 : PySem.W.codeIn K cd2 "_law_form" = true) (k2 : PySem.W.keepIn K (.ref f2) = true)
    (a3 : PySem.W.nsIn K mainGlobals "_law_power" = some (some (.ref f3))) (l3 : K.lookup f3 = some ⟨oc3, od3, .func (PySem.W.fnOf "_law_power" "_law_power" (defArgs s_lpower) (defBody s_lpower) (defScope s_lpower) .none kV3 dc3 pm3 an3 cd3 ct3), sl3⟩) (c3 : PySem.W.codeIn K cd3 "_law_power" = true) (k3 : PySem.W.keepIn K (.ref f3) = true)
    (a4 : PySem.W.nsIn K mainGlobals "_law_figures" = some (some (.ref f4))) (l4 : K.lookup f4 = some ⟨oc4, od4, .func (PySem.W.fnOf "_law_figures" "_law_figures" (defArgs s_lfigures) (defBody s_lfigures) (defScope s_lfigures) .none kV4 dc4 pm4 an4 cd4 ct4), sl4⟩) (c4 : PySem.W.codeIn K cd4 "_law_figures" = true) (k4 : PySem.W.keepIn K (.ref f4) = true)
    (a5 : PySem.W.nsIn K mainGlobals "_law_by_halves" = some (some (.ref f5))) (l5 : K.lookup f5 = some ⟨oc5, od5, .func (PySem.W.fnOf "_law_by_halves" "_law_by_halves" (defArgs s_lby_halves) (defBody s_lby_halves) (defScope s_lby_halves) .none kV5 dc5 pm5 an5 cd5 ct5), sl5⟩) (c5 : PySem.W.codeIn K cd5 "_law_by_halves" = true) (k5 : PySem.W.keepIn K (.ref f5) = true)
    (a6 : PySem.W.nsIn K mainGlobals "_law_row_with" = some (some (.ref f6))) (l6 : K.lookup f6 = some ⟨oc6, od6, .func (PySem.W.fnOf "_law_row_with" "_law_row_with" (defArgs s_lrow_with) (defBody s_lrow_with) (defScope s_lrow_with) .none kV6 dc6 pm6 an6 cd6 ct6), sl6⟩) (c6 : PySem.W.codeIn K cd6 "_law_row_with" = true) (k6 : PySem.W.keepIn K (.ref f6) = true)
    (a7 : PySem.W.nsIn K mainGlobals "_law_dressed" = some (some (.ref f7))) (l7 : K.lookup f7 = some ⟨oc7, od7, .func (PySem.W.fnOf "_law_dressed" "_law_dressed" (defArgs s_ldressed) (defBody s_ldressed) (defScope s_ldressed) .none kV7 dc7 pm7 an7 cd7 ct7), sl7⟩) (c7 : PySem.W.codeIn K cd7 "_law_dressed" = true) (k7 : PySem.W.keepIn K (.ref f7) = true)
    (a8 : PySem.W.nsIn K mainGlobals "half_looks" = some (some (.ref f8))) (l8 : K.lookup f8 = some ⟨oc8, od8, .func (PySem.W.fnOf "half_looks" "half_looks" (defArgs s_phalf_looks) (defBody s_phalf_looks) (defScope s_phalf_looks) .none kV8 dc8 pm8 an8 cd8 ct8), sl8⟩) (c8 : PySem.W.codeIn K cd8 "half_looks" = true) (k8 : PySem.W.keepIn K (.ref f8) = true)
    (a9 : PySem.W.nsIn K mainGlobals "flag_table" = some (some (.ref f9))) (l9 : K.lookup f9 = some ⟨oc9, od9, .func (PySem.W.fnOf "flag_table" "flag_table" (defArgs s_pflag_table) (defBody s_pflag_table) (defScope s_pflag_table) .none kV9 dc9 pm9 an9 cd9 ct9), sl9⟩) (c9 : PySem.W.codeIn K cd9 "flag_table" = true) (k9 : PySem.W.keepIn K (.ref f9) = true)
    (a10 : PySem.W.nsIn K mainGlobals "look_tables" = some (some (.ref f10))) (l10 : K.lookup f10 = some ⟨oc10, od10, .func (PySem.W.fnOf "look_tables" "look_tables" (defArgs s_plook_tables) (defBody s_plook_tables) (defScope s_plook_tables) .none kV10 dc10 pm10 an10 cd10 ct10), sl10⟩) (c10 : PySem.W.codeIn K cd10 "look_tables" = true) (k10 : PySem.W.keepIn K (.ref f10) = true)
    (a11 : PySem.W.nsIn K mainGlobals "look_rows" = some (some (.ref f11))) (l11 : K.lookup f11 = some ⟨oc11, od11, .func (PySem.W.fnOf "look_rows" "look_rows" (defArgs s_plook_rows) (defBody s_plook_rows) (defScope s_plook_rows) .none kV11 dc11 pm11 an11 cd11 ct11), sl11⟩) (c11 : PySem.W.codeIn K cd11 "look_rows" = true) (k11 : PySem.W.keepIn K (.ref f11) = true)
    (a12 : PySem.W.nsIn K mainGlobals "check_rows" = some (some (.ref f12))) (l12 : K.lookup f12 = some ⟨oc12, od12, .func (PySem.W.fnOf "check_rows" "check_rows" (defArgs s_pcheck_rows) (defBody s_pcheck_rows) (defScope s_pcheck_rows) .none kV12 dc12 pm12 an12 cd12 ct12), sl12⟩) (c12 : PySem.W.codeIn K cd12 "check_rows" = true) (k12 : PySem.W.keepIn K (.ref f12) = true)
    (a13 : PySem.W.nsIn K mainGlobals "_law_cell" = some (some (.ref f13))) (l13 : K.lookup f13 = some ⟨oc13, od13, .func (PySem.W.fnOf "_law_cell" "_law_cell" (defArgs s_lcell) (defBody s_lcell) (defScope s_lcell) .none kV13 dc13 pm13 an13 cd13 ct13), sl13⟩) (c13 : PySem.W.codeIn K cd13 "_law_cell" = true) (k13 : PySem.W.keepIn K (.ref f13) = true)
    (a14 : PySem.W.nsIn K mainGlobals "_law_ends" = some (some (.ref f14))) (l14 : K.lookup f14 = some ⟨oc14, od14, .func (PySem.W.fnOf "_law_ends" "_law_ends" (defArgs s_lends) (defBody s_lends) (defScope s_lends) .none kV14 dc14 pm14 an14 cd14 ct14), sl14⟩) (c14 : PySem.W.codeIn K cd14 "_law_ends" = true) (k14 : PySem.W.keepIn K (.ref f14) = true)
    (a15 : PySem.W.nsIn K mainGlobals "_law_number" = some (some (.ref f15))) (l15 : K.lookup f15 = some ⟨oc15, od15, .func (PySem.W.fnOf "_law_number" "_law_number" (defArgs s_lnumber) (defBody s_lnumber) (defScope s_lnumber) .none kV15 dc15 pm15 an15 cd15 ct15), sl15⟩) (c15 : PySem.W.codeIn K cd15 "_law_number" = true) (k15 : PySem.W.keepIn K (.ref f15) = true)
    (a16 : PySem.W.nsIn K mainGlobals "halves_of" = some (some (.ref f16))) (l16 : K.lookup f16 = some ⟨oc16, od16, .func (PySem.W.fnOf "halves_of" "halves_of" (defArgs s_phalves_of) (defBody s_phalves_of) (defScope s_phalves_of) .none kV16 dc16 pm16 an16 cd16 ct16), sl16⟩) (c16 : PySem.W.codeIn K cd16 "halves_of" = true) (k16 : PySem.W.keepIn K (.ref f16) = true)
    (a17 : PySem.W.nsIn K mainGlobals "duties" = some (some (.ref f17))) (l17 : K.lookup f17 = some ⟨oc17, od17, .func (PySem.W.fnOf "duties" "duties" (defArgs s_pduties) (defBody s_pduties) (defScope s_pduties) .none kV17 dc17 pm17 an17 cd17 ct17), sl17⟩) (c17 : PySem.W.codeIn K cd17 "duties" = true) (k17 : PySem.W.keepIn K (.ref f17) = true)
    (a18 : PySem.W.nsIn K mainGlobals "halves_in" = some (some (.ref f18))) (l18 : K.lookup f18 = some ⟨oc18, od18, .func (PySem.W.fnOf "halves_in" "halves_in" (defArgs s_phalves_in) (defBody s_phalves_in) (defScope s_phalves_in) .none kV18 dc18 pm18 an18 cd18 ct18), sl18⟩) (c18 : PySem.W.codeIn K cd18 "halves_in" = true) (k18 : PySem.W.keepIn K (.ref f18) = true)
    (a19 : PySem.W.nsIn K mainGlobals "half_right" = some (some (.ref f19))) (l19 : K.lookup f19 = some ⟨oc19, od19, .func (PySem.W.fnOf "half_right" "half_right" (defArgs s_phalf_right) (defBody s_phalf_right) (defScope s_phalf_right) .none kV19 dc19 pm19 an19 cd19 ct19), sl19⟩) (c19 : PySem.W.codeIn K cd19 "half_right" = true) (k19 : PySem.W.keepIn K (.ref f19) = true)
    (a20 : PySem.W.nsIn K mainGlobals "caught" = some (some (.ref f20))) (l20 : K.lookup f20 = some ⟨oc20, od20, .func (PySem.W.fnOf "caught" "caught" (defArgs s_pcaught) (defBody s_pcaught) (defScope s_pcaught) .none kV20 dc20 pm20 an20 cd20 ct20), sl20⟩) (c20 : PySem.W.codeIn K cd20 "caught" = true) (k20 : PySem.W.keepIn K (.ref f20) = true)
    (a21 : PySem.W.nsIn K mainGlobals "number_by" = some (some (.ref f21))) (l21 : K.lookup f21 = some ⟨oc21, od21, .func (PySem.W.fnOf "number_by" "number_by" (defArgs s_pnumber_by) (defBody s_pnumber_by) (defScope s_pnumber_by) .none kV21 dc21 pm21 an21 cd21 ct21), sl21⟩) (c21 : PySem.W.codeIn K cd21 "number_by" = true) (k21 : PySem.W.keepIn K (.ref f21) = true)
    (a22 : PySem.W.nsIn K mainGlobals "power" = some (some (.ref f22))) (l22 : K.lookup f22 = some ⟨oc22, od22, .func (PySem.W.fnOf "power" "power" (defArgs s_ppower) (defBody s_ppower) (defScope s_ppower) .none kV22 dc22 pm22 an22 cd22 ct22), sl22⟩) (c22 : PySem.W.codeIn K cd22 "power" = true) (k22 : PySem.W.keepIn K (.ref f22) = true)
    (a23 : PySem.W.nsIn K mainGlobals "number_of" = some (some (.ref f23))) (l23 : K.lookup f23 = some ⟨oc23, od23, .func (PySem.W.fnOf "number_of" "number_of" (defArgs s_pnumber_of) (defBody s_pnumber_of) (defScope s_pnumber_of) .none kV23 dc23 pm23 an23 cd23 ct23), sl23⟩) (c23 : PySem.W.codeIn K cd23 "number_of" = true) (k23 : PySem.W.keepIn K (.ref f23) = true)
    (a24 : PySem.W.nsIn K mainGlobals "_law_read" = some (some (.ref f24))) (l24 : K.lookup f24 = some ⟨oc24, od24, .func (PySem.W.fnOf "_law_read" "_law_read" (defArgs s_lread2) (defBody s_lread2) (defScope s_lread2) .none kV24 dc24 pm24 an24 cd24 ct24), sl24⟩) (c24 : PySem.W.codeIn K cd24 "_law_read" = true) (k24 : PySem.W.keepIn K (.ref f24) = true)
    (a25 : PySem.W.nsIn K mainGlobals "_law_just" = some (some (.ref f25))) (l25 : K.lookup f25 = some ⟨oc25, od25, .func (PySem.W.fnOf "_law_just" "_law_just" (defArgs s_ljust) (defBody s_ljust) (defScope s_ljust) .none kV25 dc25 pm25 an25 cd25 ct25), sl25⟩) (c25 : PySem.W.codeIn K cd25 "_law_just" = true) (k25 : PySem.W.keepIn K (.ref f25) = true)
    (a26 : PySem.W.nsIn K mainGlobals "_law_filled" = some (some (.ref f26))) (l26 : K.lookup f26 = some ⟨oc26, od26, .func (PySem.W.fnOf "_law_filled" "_law_filled" (defArgs s_lfilled) (defBody s_lfilled) (defScope s_lfilled) .none kV26 dc26 pm26 an26 cd26 ct26), sl26⟩) (c26 : PySem.W.codeIn K cd26 "_law_filled" = true) (k26 : PySem.W.keepIn K (.ref f26) = true)
    (a27 : PySem.W.nsIn K mainGlobals "_law_run" = some (some (.ref f27))) (l27 : K.lookup f27 = some ⟨oc27, od27, .func (PySem.W.fnOf "_law_run" "_law_run" (defArgs s_lrun) (defBody s_lrun) (defScope s_lrun) .none kV27 dc27 pm27 an27 cd27 ct27), sl27⟩) (c27 : PySem.W.codeIn K cd27 "_law_run" = true) (k27 : PySem.W.keepIn K (.ref f27) = true)
    (a28 : PySem.W.nsIn K mainGlobals "_law_after" = some (some (.ref f28))) (l28 : K.lookup f28 = some ⟨oc28, od28, .func (PySem.W.fnOf "_law_after" "_law_after" (defArgs s_lafter) (defBody s_lafter) (defScope s_lafter) .none kV28 dc28 pm28 an28 cd28 ct28), sl28⟩) (c28 : PySem.W.codeIn K cd28 "_law_after" = true) (k28 : PySem.W.keepIn K (.ref f28) = true)
    (a29 : PySem.W.nsIn K mainGlobals "_law_caught" = some (some (.ref f29))) (l29 : K.lookup f29 = some ⟨oc29, od29, .func (PySem.W.fnOf "_law_caught" "_law_caught" (defArgs s_lcaught) (defBody s_lcaught) (defScope s_lcaught) .none kV29 dc29 pm29 an29 cd29 ct29), sl29⟩) (c29 : PySem.W.codeIn K cd29 "_law_caught" = true) (k29 : PySem.W.keepIn K (.ref f29) = true)
    (a30 : PySem.W.nsIn K mainGlobals "_law_read_row" = some (some (.ref f30))) (l30 : K.lookup f30 = some ⟨oc30, od30, .func (PySem.W.fnOf "_law_read_row" "_law_read_row" (defArgs s_lread_row) (defBody s_lread_row) (defScope s_lread_row) .none kV30 dc30 pm30 an30 cd30 ct30), sl30⟩) (c30 : PySem.W.codeIn K cd30 "_law_read_row" = true) (k30 : PySem.W.keepIn K (.ref f30) = true)
    (a31 : PySem.W.nsIn K mainGlobals "_law_right" = some (some (.ref f31))) (l31 : K.lookup f31 = some ⟨oc31, od31, .func (PySem.W.fnOf "_law_right" "_law_right" (defArgs s_lright9) (defBody s_lright9) (defScope s_lright9) .none kV31 dc31 pm31 an31 cd31 ct31), sl31⟩) (c31 : PySem.W.codeIn K cd31 "_law_right" = true) (k31 : PySem.W.keepIn K (.ref f31) = true)
    (a32 : PySem.W.nsIn K mainGlobals "law" = some (some (.ref f32))) (l32 : K.lookup f32 = some ⟨oc32, od32, .func (PySem.W.fnOf "law" "law" (defArgs s_law74) (defBody s_law74) (defScope s_law74) .none kV32 dc32 pm32 an32 cd32 ct32), sl32⟩) (c32 : PySem.W.codeIn K cd32 "law" = true) (k32 : PySem.W.keepIn K (.ref f32) = true)
    (z_len : PySem.W.nsIn K mainGlobals "len" = some none)
    (z_range : PySem.W.nsIn K mainGlobals "range" = some none)
    (z_abs : PySem.W.nsIn K mainGlobals "abs" = some none)
    (z_max : PySem.W.nsIn K mainGlobals "max" = some none)
    (z_min : PySem.W.nsIn K mainGlobals "min" = some none)
    (z_int : PySem.W.nsIn K mainGlobals "int" = some none)
    (z_str : PySem.W.nsIn K mainGlobals "str" = some none)
    (z_tuple : PySem.W.nsIn K mainGlobals "tuple" = some none)
    (z_list : PySem.W.nsIn K mainGlobals "list" = some none)
    (z_all : PySem.W.nsIn K mainGlobals "all" = some none)
    (z_any : PySem.W.nsIn K mainGlobals "any" = some none)
    (z_isinstance : PySem.W.nsIn K mainGlobals "isinstance" = some none)
    (z_divmod : PySem.W.nsIn K mainGlobals "divmod" = some none)
    (z_sum : PySem.W.nsIn K mainGlobals "sum" = some none)
    (z_zip : PySem.W.nsIn K mainGlobals "zip" = some none)
    (z_enumerate : PySem.W.nsIn K mainGlobals "enumerate" = some none)
    (z_reversed : PySem.W.nsIn K mainGlobals "reversed" = some none)
    (z_sorted : PySem.W.nsIn K mainGlobals "sorted" = some none)
    (z_dict : PySem.W.nsIn K mainGlobals "dict" = some none)
    (z_set : PySem.W.nsIn K mainGlobals "set" = some none)
    (z_bool : PySem.W.nsIn K mainGlobals "bool" = some none)
    {qt_IS_FIGURE : Tok} (qa_IS_FIGURE : PySem.W.nsIn K mainGlobals "IS_FIGURE" = some (some (.int 0 qt_IS_FIGURE)))
    {qt_IS_ZONE : Tok} (qa_IS_ZONE : PySem.W.nsIn K mainGlobals "IS_ZONE" = some (some (.int 3 qt_IS_ZONE)))
    {qt_IS_SIGN : Tok} (qa_IS_SIGN : PySem.W.nsIn K mainGlobals "IS_SIGN" = some (some (.int 1 qt_IS_SIGN)))
    {qt_IS_NOUGHT : Tok} (qa_IS_NOUGHT : PySem.W.nsIn K mainGlobals "IS_NOUGHT" = some (some (.int 2 qt_IS_NOUGHT)))
    {qt_ALL_CELLS : Tok} (qa_ALL_CELLS : PySem.W.nsIn K mainGlobals "ALL_CELLS" = some (some (.int 256 qt_ALL_CELLS)))
    {q_SIGNS : Addr} {qd_SIGNS : Option Addr} {qi_SIGNS : Array Value} {qn_SIGNS : Nat} {qs_SIGNS : Array (Option Value)} (qa_SIGNS : PySem.W.nsIn K mainGlobals "SIGNS" = some (some (.ref q_SIGNS))) (ql_SIGNS : K.lookup q_SIGNS = some ⟨.type "tuple", qd_SIGNS, .seq qi_SIGNS qn_SIGNS, qs_SIGNS⟩) (qe_SIGNS : flatsIs [(.int 10), (.int 11), (.int 12), (.int 13), (.int 14), (.int 15)] qi_SIGNS.toList = true) (qz_SIGNS : qi_SIGNS.size ≤ 1000)
    {q_FIGURES : Addr} {qd_FIGURES : Option Addr} {qi_FIGURES : Array Value} {qn_FIGURES : Nat} {qs_FIGURES : Array (Option Value)} (qa_FIGURES : PySem.W.nsIn K mainGlobals "FIGURES" = some (some (.ref q_FIGURES))) (ql_FIGURES : K.lookup q_FIGURES = some ⟨.type "tuple", qd_FIGURES, .seq qi_FIGURES qn_FIGURES, qs_FIGURES⟩) (qe_FIGURES : flatsIs [(.int 0), (.int 1), (.int 2), (.int 3), (.int 4), (.int 5), (.int 6), (.int 7), (.int 8), (.int 9)] qi_FIGURES.toList = true) (qz_FIGURES : qi_FIGURES.size ≤ 1000)
    {qt_TURNED : Tok} (qa_TURNED : PySem.W.nsIn K mainGlobals "TURNED" = some (some (.int 8 qt_TURNED)))
    {qt_OTHER : Tok} (qa_OTHER : PySem.W.nsIn K mainGlobals "OTHER" = some (some (.int 254 qt_OTHER)))
    {qt_FLAG : Tok} (qa_FLAG : PySem.W.nsIn K mainGlobals "FLAG" = some (some (.int 253 qt_FLAG)))
    {qt_BLANK : Tok} (qa_BLANK : PySem.W.nsIn K mainGlobals "BLANK" = some (some (.int 255 qt_BLANK)))
    {qt_ANSWER : Tok} (qa_ANSWER : PySem.W.nsIn K mainGlobals "ANSWER" = some (some (.int 252 qt_ANSWER)))
    {qt_ZONE_HALF : Tok} (qa_ZONE_HALF : PySem.W.nsIn K mainGlobals "ZONE_HALF" = some (some (.int 15 qt_ZONE_HALF)))
    {q_MINUS_HALVES : Addr} {qd_MINUS_HALVES : Option Addr} {qi_MINUS_HALVES : Array Value} {qn_MINUS_HALVES : Nat} {qs_MINUS_HALVES : Array (Option Value)} (qa_MINUS_HALVES : PySem.W.nsIn K mainGlobals "MINUS_HALVES" = some (some (.ref q_MINUS_HALVES))) (ql_MINUS_HALVES : K.lookup q_MINUS_HALVES = some ⟨.type "tuple", qd_MINUS_HALVES, .seq qi_MINUS_HALVES qn_MINUS_HALVES, qs_MINUS_HALVES⟩) (qe_MINUS_HALVES : flatsIs [(.int 11), (.int 13)] qi_MINUS_HALVES.toList = true) (qz_MINUS_HALVES : qi_MINUS_HALVES.size ≤ 1000)
    {c_LoftError : Addr} (n_LoftError : PySem.W.nsIn K mainGlobals "LoftError" = some (some (.ref c_LoftError)))
    {c_Wrong : Addr} (n_Wrong : PySem.W.nsIn K mainGlobals "Wrong" = some (some (.ref c_Wrong)))
    (b1_LoftError : PySem.W.readsIn K c_LoftError (.type "type") = true)
    (b2_LoftError : PySem.W.specialIn K (.ref c_LoftError) "__getattribute__" = some (some (.builtin "type.__getattribute__")))
    (b3_LoftError : PySem.W.findCls K (.ref c_LoftError) (.type "type") "__init__" = some (.val (.builtin "ValueError.__init__")))
    {nm_Wrong q_Wrong : Str} {N_Wrong i_Wrong : Addr} {bs_Wrong : List Value} {sn_Wrong : List Str} {sub_Wrong : List Value} {ab_Wrong : Bool} {col_Wrong : Option Bool} {dd_Wrong : Option Addr} {k0_Wrong k1_Wrong k2_Wrong k3_Wrong k5_Wrong : Option Value}
    (l_Wrong : K.lookup c_Wrong = some (excClassObj nm_Wrong q_Wrong c_Wrong N_Wrong bs_Wrong [.ref c_LoftError, .type "ValueError", .type "Exception", .type "BaseException", .type "object"] true sn_Wrong sub_Wrong ab_Wrong col_Wrong dd_Wrong k0_Wrong k1_Wrong k2_Wrong k3_Wrong k5_Wrong "ValueError.__new__"))
    (s_Wrong : PySem.W.findIn K (.ref c_Wrong) "__setattr__" = some (some (.builtin "object.__setattr__")))
    (e_Wrong : PySem.W.subIn K (.ref c_Wrong) (.type "BaseException") = some true)
    (t_Wrong : PySem.W.typeIn K (.ref c_Wrong) = some (.type "type"))
    (p_Wrong : PySem.W.keepIn K (.ref c_Wrong) = true)
    (i_Wrong_ : PySem.W.findIn K (.ref c_Wrong) "__init__" = some (some (.ref i_Wrong)))
    (j_Wrong : PySem.W.typeIn K (.ref i_Wrong) = some (.type "function"))
    (f_Wrong_place : PySem.W.findIn K (.ref c_Wrong) "place" = some none)
    (f_Wrong_why : PySem.W.findIn K (.ref c_Wrong) "why" = some none)
    {io_Wrong ik_Wrong id_Wrong ip_Wrong ic_Wrong it_Wrong : Value} {iod_Wrong ia_Wrong : Option Addr} {is_Wrong : Array (Option Value)}
    (g_Wrong : K.lookup i_Wrong = some ⟨io_Wrong, iod_Wrong, .func (PySem.W.fnOf "__init__" "Wrong.__init__" (defArgs s_ini_Wrong) (defBody s_ini_Wrong) (defScope s_ini_Wrong) .none ik_Wrong id_Wrong ip_Wrong ia_Wrong ic_Wrong it_Wrong), is_Wrong⟩)
    (h_Wrong_ : PySem.W.codeIn K ic_Wrong "Wrong.__init__" = true)
    (m_Wrong_ : PySem.W.keepIn K (.ref i_Wrong) = true)
    (yxext_Wrong_Wrong_True : PySem.W.exmOne K (.ref c_Wrong) (.ref c_Wrong) = some true)
    (yxxcf_Wrong_place_why : xcB K c_Wrong ["place", "why"] = true)
    : ∃ fd : FuncData, (∀ (s : Shared) (u : Value), BindsTo s fd ⟨[u], []⟩ [("_law_script", u)]) ∧ ∀ base : Heap, K.In base → base.Ns mainGlobals mg → FnOk l.prog w K mg base (L2N.CX l.prog w) 14 fa fd ["_law_script"] (spF K mg 1 [] f_law74) := by
  have e := hfa.symm.trans (PySem.W.mg_of X G a32)
  cases e
  have B : Bn mg := ⟨PySem.W.mg_none_of X G z_len, PySem.W.mg_none_of X G z_range, PySem.W.mg_none_of X G z_abs, PySem.W.mg_none_of X G z_max, PySem.W.mg_none_of X G z_min, PySem.W.mg_none_of X G z_int, PySem.W.mg_none_of X G z_str, PySem.W.mg_none_of X G z_tuple, PySem.W.mg_none_of X G z_list, PySem.W.mg_none_of X G z_all, PySem.W.mg_none_of X G z_any, PySem.W.mg_none_of X G z_isinstance, PySem.W.mg_none_of X G z_divmod, PySem.W.mg_none_of X G z_sum, PySem.W.mg_none_of X G z_zip, PySem.W.mg_none_of X G z_enumerate, PySem.W.mg_none_of X G z_reversed, PySem.W.mg_none_of X G z_sorted, PySem.W.mg_none_of X G z_dict, PySem.W.mg_none_of X G z_set, PySem.W.mg_none_of X G z_bool⟩
  have c_IS_FIGURE : Cst K mg "IS_FIGURE" (.int 0) := cst_int (PySem.W.mg_of X G qa_IS_FIGURE)
  have c_IS_ZONE : Cst K mg "IS_ZONE" (.int 3) := cst_int (PySem.W.mg_of X G qa_IS_ZONE)
  have c_IS_SIGN : Cst K mg "IS_SIGN" (.int 1) := cst_int (PySem.W.mg_of X G qa_IS_SIGN)
  have c_IS_NOUGHT : Cst K mg "IS_NOUGHT" (.int 2) := cst_int (PySem.W.mg_of X G qa_IS_NOUGHT)
  have c_ALL_CELLS : Cst K mg "ALL_CELLS" (.int 256) := cst_int (PySem.W.mg_of X G qa_ALL_CELLS)
  have c_SIGNS : Cst K mg "SIGNS" (.tup [(.int 10), (.int 11), (.int 12), (.int 13), (.int 14), (.int 15)]) := cst_tup (PySem.W.mg_of X G qa_SIGNS) ql_SIGNS qe_SIGNS qz_SIGNS
  have c_FIGURES : Cst K mg "FIGURES" (.tup [(.int 0), (.int 1), (.int 2), (.int 3), (.int 4), (.int 5), (.int 6), (.int 7), (.int 8), (.int 9)]) := cst_tup (PySem.W.mg_of X G qa_FIGURES) ql_FIGURES qe_FIGURES qz_FIGURES
  have c_TURNED : Cst K mg "TURNED" (.int 8) := cst_int (PySem.W.mg_of X G qa_TURNED)
  have c_OTHER : Cst K mg "OTHER" (.int 254) := cst_int (PySem.W.mg_of X G qa_OTHER)
  have c_FLAG : Cst K mg "FLAG" (.int 253) := cst_int (PySem.W.mg_of X G qa_FLAG)
  have c_BLANK : Cst K mg "BLANK" (.int 255) := cst_int (PySem.W.mg_of X G qa_BLANK)
  have c_ANSWER : Cst K mg "ANSWER" (.int 252) := cst_int (PySem.W.mg_of X G qa_ANSWER)
  have c_ZONE_HALF : Cst K mg "ZONE_HALF" (.int 15) := cst_int (PySem.W.mg_of X G qa_ZONE_HALF)
  have c_MINUS_HALVES : Cst K mg "MINUS_HALVES" (.tup [(.int 11), (.int 13)]) := cst_tup (PySem.W.mg_of X G qa_MINUS_HALVES) ql_MINUS_HALVES qe_MINUS_HALVES qz_MINUS_HALVES
  have F0 := fun_mk (st := s_lmixed) l0 c0 k0
  have b0 := F0.binds (ps := ["_law_cell_here", "_law_k", "_law_salt"]) fun _ _ _ _ _ _ us hl => match us, hl with | [_, _, _], _ => rfl
  have F1 := fun_mk (st := s_ldraws) l1 c1 k1
  have b1 := F1.binds (ps := ["_law_cell_here", "_law_salt", "_law_widths"]) fun _ _ _ _ _ _ us hl => match us, hl with | [_, _, _], _ => rfl
  have F2 := fun_mk (st := s_lform) l2 c2 k2
  have b2 := F2.binds (ps := ["_law_kind", "_law_many", "_law_sign"]) fun _ _ _ _ _ _ us hl => match us, hl with | [_, _, _], _ => rfl
  have F3 := fun_mk (st := s_lpower) l3 c3 k3
  have b3 := F3.binds (ps := ["_law_base", "_law_many"]) fun _ _ _ _ _ _ us hl => match us, hl with | [_, _], _ => rfl
  have F4 := fun_mk (st := s_lfigures) l4 c4 k4
  have b4 := F4.binds (ps := ["_law_form_here", "_law_number_here"]) fun _ _ _ _ _ _ us hl => match us, hl with | [_, _], _ => rfl
  have F5 := fun_mk (st := s_lby_halves) l5 c5 k5
  have b5 := F5.binds (ps := ["_law_halves"]) fun _ _ _ _ _ _ us hl => match us, hl with | [_], _ => rfl
  have F6 := fun_mk (st := s_lrow_with) l6 c6 k6
  have b6 := F6.binds (ps := ["_law_form_here", "_law_number_here", "_law_half"]) fun _ _ _ _ _ _ us hl => match us, hl with | [_, _, _], _ => rfl
  have F7 := fun_mk (st := s_ldressed) l7 c7 k7
  have b7 := F7.binds (ps := ["_law_form_here", "_law_number_here", "_law_digit"]) fun _ _ _ _ _ _ us hl => match us, hl with | [_, _, _], _ => rfl
  have F8 := fun_mk (st := s_phalf_looks) l8 c8 k8
  have b8 := F8.binds (ps := ["form"]) fun _ _ _ _ _ _ us hl => match us, hl with | [_], _ => rfl
  have F9 := fun_mk (st := s_pflag_table) l9 c9 k9
  have b9 := F9.binds (ps := ["is_high", "good"]) fun _ _ _ _ _ _ us hl => match us, hl with | [_, _], _ => rfl
  have F10 := fun_mk (st := s_plook_tables) l10 c10 k10
  have b10 := F10.binds (ps := []) fun _ _ _ _ _ _ us hl => match us, hl with | [], _ => rfl
  have F11 := fun_mk (st := s_plook_rows) l11 c11 k11
  have b11 := F11.binds (ps := ["place", "wanted"]) fun _ _ _ _ _ _ us hl => match us, hl with | [_, _], _ => rfl
  have F12 := fun_mk (st := s_pcheck_rows) l12 c12 k12
  have b12 := F12.binds (ps := ["form"]) fun _ _ _ _ _ _ us hl => match us, hl with | [_], _ => rfl
  have F13 := fun_mk (st := s_lcell) l13 c13 k13
  have b13 := F13.binds (ps := ["_law_script", "_law_k"]) fun _ _ _ _ _ _ us hl => match us, hl with | [_, _], _ => rfl
  have F14 := fun_mk (st := s_lends) l14 c14 k14
  have b14 := F14.binds (ps := ["_law_form_here"]) fun _ _ _ _ _ _ us hl => match us, hl with | [_], _ => rfl
  have F15 := fun_mk (st := s_lnumber) l15 c15 k15
  have b15 := F15.binds (ps := ["_law_form_here", "_law_way", "_law_far"]) fun _ _ _ _ _ _ us hl => match us, hl with | [_, _, _], _ => rfl
  have F16 := fun_mk (st := s_phalves_of) l16 c16 k16
  have b16 := F16.binds (ps := ["form"]) fun _ _ _ _ _ _ us hl => match us, hl with | [_], _ => rfl
  have F17 := fun_mk (st := s_pduties) l17 c17 k17
  have b17 := F17.binds (ps := ["form"]) fun _ _ _ _ _ _ us hl => match us, hl with | [_], _ => rfl
  have F18 := fun_mk (st := s_phalves_in) l18 c18 k18
  have b18 := F18.binds (ps := ["row"]) fun _ _ _ _ _ _ us hl => match us, hl with | [_], _ => rfl
  have F19 := fun_mk (st := s_phalf_right) l19 c19 k19
  have b19 := F19.binds (ps := ["duty", "half"]) fun _ _ _ _ _ _ us hl => match us, hl with | [_, _], _ => rfl
  have F20 := fun_mk (st := s_pcaught) l20 c20 k20
  have b20 := F20.binds (ps := ["form", "row"]) fun _ _ _ _ _ _ us hl => match us, hl with | [_, _], _ => rfl
  have F21 := fun_mk (st := s_pnumber_by) l21 c21 k21
  have b21 := F21.binds (ps := ["base", "digits"]) fun _ _ _ _ _ _ us hl => match us, hl with | [_, _], _ => rfl
  have F22 := fun_mk (st := s_ppower) l22 c22 k22
  have b22 := F22.binds (ps := ["base", "many"]) fun _ _ _ _ _ _ us hl => match us, hl with | [_, _], _ => rfl
  have F23 := fun_mk (st := s_pnumber_of) l23 c23 k23
  have b23 := F23.binds (ps := ["form", "row"]) fun _ _ _ _ _ _ us hl => match us, hl with | [_, _], _ => rfl
  have F24 := fun_mk (st := s_lread2) l24 c24 k24
  have b24 := F24.binds (ps := ["_law_form_here", "_law_row"]) fun _ _ _ _ _ _ us hl => match us, hl with | [_, _], _ => rfl
  have F25 := fun_mk (st := s_ljust) l25 c25 k25
  have b25 := F25.binds (ps := ["_law_found", "_law_due"]) fun _ _ _ _ _ _ us hl => match us, hl with | [_, _], _ => rfl
  have F26 := fun_mk (st := s_lfilled) l26 c26 k26
  have b26 := F26.binds (ps := ["_law_cell_here", "_law_salt", "_law_front"]) fun _ _ _ _ _ _ us hl => match us, hl with | [_, _, _], _ => rfl
  have F27 := fun_mk (st := s_lrun) l27 c27 k27
  have b27 := F27.binds (ps := ["_law_program", "_law_cells", "_law_mark"]) fun _ _ _ _ _ _ us hl => match us, hl with | [_, _, _], _ => rfl
  have F28 := fun_mk (st := s_lafter) l28 c28 k28
  have b28 := F28.binds (ps := ["_law_program", "_law_front", "_law_cell_here", "_law_salt", "_law_many"]) fun _ _ _ _ _ _ us hl => match us, hl with | [_, _, _, _, _], _ => rfl
  have F29 := fun_mk (st := s_lcaught) l29 c29 k29
  have b29 := F29.binds (ps := ["_law_form_here", "_law_row"]) fun _ _ _ _ _ _ us hl => match us, hl with | [_, _], _ => rfl
  have F30 := fun_mk (st := s_lread_row) l30 c30 k30
  have b30 := F30.binds (ps := ["_law_form_here", "_law_row"]) fun _ _ _ _ _ _ us hl => match us, hl with | [_, _], _ => rfl
  have F31 := fun_mk (st := s_lright9) l31 c31 k31
  have b31 := F31.binds (ps := ["_law_form_here", "_law_program", "_law_row", "_law_cell_here", "_law_salt"]) fun _ _ _ _ _ _ us hl => match us, hl with | [_, _, _, _, _], _ => rfl
  have F32 := fun_mk (st := s_law74) l32 c32 k32
  have b32 := F32.binds (ps := ["_law_script"]) fun _ _ _ _ _ _ us hl => match us, hl with | [_], _ => rfl
  refine ⟨PySem.W.fnOf "law" "law" (defArgs s_law74) (defBody s_law74) (defScope s_law74) .none kV32 dc32 pm32 an32 cd32 ct32, fun s v => .of_eq rfl, fun base _ _ => ?_⟩
  have B_LoftError : Bas K mg "LoftError" := ⟨c_LoftError, PySem.W.mg_of X G n_LoftError, b1_LoftError, b2_LoftError, b3_LoftError⟩
  have FI_Wrong := fun_mk (st := s_ini_Wrong) g_Wrong h_Wrong_ m_Wrong_
  have bI_Wrong := FI_Wrong.binds (ps := ["self", "place", "why"]) fun _ _ _ _ _ _ us hl => match us, hl with | [_, _, _], _ => rfl
  have xcl2_Wrong_place_why : Cl2 l.prog w K mg base "Wrong" "place" "why" := ⟨_, _, _, _, owX_mk (PySem.W.mg_of X G n_Wrong) l_Wrong rfl s_Wrong e_Wrong t_Wrong p_Wrong i_Wrong_ j_Wrong, f_Wrong_place, f_Wrong_why, ini_Wrong FI_Wrong B_LoftError, bI_Wrong⟩
  have xext_Wrong_Wrong_True : ExT K mg "Wrong" "Wrong" true := ⟨_, _, PySem.W.mg_of X G n_Wrong, PySem.W.mg_of X G n_Wrong, yxext_Wrong_Wrong_True⟩
  have xcls_Wrong : ∃ D, mg "Wrong" = some (.ref D) := ⟨_, PySem.W.mg_of X G n_Wrong⟩
  have xxcf_Wrong_place_why : XcF K mg ["place", "why"] "Wrong" := ⟨_, PySem.W.mg_of X G n_Wrong, yxxcf_Wrong_place_why⟩
  have h_lmixed : Fd l.prog w K mg base "_law_mixed" 2 ["_law_cell_here", "_law_k", "_law_salt"] [] f_lmixed := ⟨_, _, ok_lmixed F0 B    , PySem.W.mg_of X G a0, k0, b0⟩
  have h_ldraws : Fd l.prog w K mg base "_law_draws" 4 ["_law_cell_here", "_law_salt", "_law_widths"] [] f_ldraws := ⟨_, _, ok_ldraws F1 B h_lmixed   , PySem.W.mg_of X G a1, k1, b1⟩
  have h_lform : Fd l.prog w K mg base "_law_form" 2 ["_law_kind", "_law_many", "_law_sign"] [] f_lform := ⟨_, _, ok_lform F2 B    , PySem.W.mg_of X G a2, k2, b2⟩
  have h_lpower : Fd l.prog w K mg base "_law_power" 2 ["_law_base", "_law_many"] [] f_lpower := ⟨_, _, ok_lpower F3 B    , PySem.W.mg_of X G a3, k3, b3⟩
  have h_lfigures : Fd l.prog w K mg base "_law_figures" 4 ["_law_form_here", "_law_number_here"] [] f_lfigures := ⟨_, _, ok_lfigures F4 B h_lpower   , PySem.W.mg_of X G a4, k4, b4⟩
  have h_lby_halves : Fd l.prog w K mg base "_law_by_halves" 2 ["_law_halves"] [] f_lby_halves := ⟨_, _, ok_lby_halves F5 B    , PySem.W.mg_of X G a5, k5, b5⟩
  have h_lrow_with : Fd l.prog w K mg base "_law_row_with" 6 ["_law_form_here", "_law_number_here", "_law_half"] [] f_lrow_with := ⟨_, _, ok_lrow_with F6 B h_lfigures h_lby_halves   , PySem.W.mg_of X G a6, k6, b6⟩
  have h_ldressed : Fd l.prog w K mg base "_law_dressed" 8 ["_law_form_here", "_law_number_here", "_law_digit"] [] f_ldressed := ⟨_, _, ok_ldressed F7 B h_lrow_with   , PySem.W.mg_of X G a7, k7, b7⟩
  have h_phalf_looks : Fd l.prog w K mg base "half_looks" 2 ["form"] [] f_phalf_looks := ⟨_, _, ok_phalf_looks F8 B    c_IS_FIGURE c_IS_ZONE c_IS_SIGN c_IS_NOUGHT, PySem.W.mg_of X G a8, k8, b8⟩
  have h_pflag_table : Fd l.prog w K mg base "flag_table" 2 ["is_high", "good"] [] f_pflag_table := ⟨_, _, ok_pflag_table F9 B    c_ALL_CELLS, PySem.W.mg_of X G a9, k9, b9⟩
  have h_plook_tables : Fd l.prog w K mg base "look_tables" 4 [] [] f_plook_tables := ⟨_, _, ok_plook_tables F10 B h_pflag_table   c_SIGNS c_FIGURES c_ALL_CELLS, PySem.W.mg_of X G a10, k10, b10⟩
  have h_plook_rows : Fd l.prog w K mg base "look_rows" 2 ["place", "wanted"] [] f_plook_rows := ⟨_, _, ok_plook_rows F11 B    c_TURNED c_OTHER c_FLAG c_BLANK c_ANSWER, PySem.W.mg_of X G a11, k11, b11⟩
  have h_pcheck_rows : Fd l.prog w K mg base "check_rows" 6 ["form"] [] f_pcheck_rows := ⟨_, _, ok_pcheck_rows F12 B h_phalf_looks h_plook_rows h_plook_tables   c_ANSWER, PySem.W.mg_of X G a12, k12, b12⟩
  have h_lcell : Fd l.prog w K mg base "_law_cell" 2 ["_law_script", "_law_k"] [] f_lcell := ⟨_, _, ok_lcell F13 B    , PySem.W.mg_of X G a13, k13, b13⟩
  have h_lends : Fd l.prog w K mg base "_law_ends" 4 ["_law_form_here"] [] f_lends := ⟨_, _, ok_lends F14 B h_lpower   , PySem.W.mg_of X G a14, k14, b14⟩
  have h_lnumber : Fd l.prog w K mg base "_law_number" 6 ["_law_form_here", "_law_way", "_law_far"] [] f_lnumber := ⟨_, _, ok_lnumber F15 B h_lends h_lpower   , PySem.W.mg_of X G a15, k15, b15⟩
  have h_phalves_of : Fd l.prog w K mg base "halves_of" 2 ["form"] [] f_phalves_of := ⟨_, _, ok_phalves_of F16 B    , PySem.W.mg_of X G a16, k16, b16⟩
  have h_pduties : Fd l.prog w K mg base "duties" 4 ["form"] [] f_pduties := ⟨_, _, ok_pduties F17 B h_phalves_of   , PySem.W.mg_of X G a17, k17, b17⟩
  have h_phalves_in : Fd l.prog w K mg base "halves_in" 2 ["row"] [] f_phalves_in := ⟨_, _, ok_phalves_in F18 B    , PySem.W.mg_of X G a18, k18, b18⟩
  have h_phalf_right : Fd l.prog w K mg base "half_right" 2 ["duty", "half"] [] f_phalf_right := ⟨_, _, ok_phalf_right F19 B    c_ZONE_HALF, PySem.W.mg_of X G a19, k19, b19⟩
  have h_pcaught : Fd l.prog w K mg base "caught" 6 ["form", "row"] [] f_pcaught := ⟨_, _, ok_pcaught F20 B h_pduties h_phalves_in h_phalf_right   , PySem.W.mg_of X G a20, k20, b20⟩
  have h_pnumber_by : Fd l.prog w K mg base "number_by" 2 ["base", "digits"] [] f_pnumber_by := ⟨_, _, ok_pnumber_by F21 B    , PySem.W.mg_of X G a21, k21, b21⟩
  have h_ppower : Fd l.prog w K mg base "power" 2 ["base", "many"] [] f_ppower := ⟨_, _, ok_ppower F22 B    , PySem.W.mg_of X G a22, k22, b22⟩
  have h_pnumber_of : Fd l.prog w K mg base "number_of" 8 ["form", "row"] [] f_pnumber_of := ⟨_, _, ok_pnumber_of F23 B h_pcaught h_pduties h_phalves_in h_pnumber_by h_ppower  xcl2_Wrong_place_why c_MINUS_HALVES, PySem.W.mg_of X G a23, k23, b23⟩
  have h_lread2 : Fd l.prog w K mg base "_law_read" 10 ["_law_form_here", "_law_row"] [] f_lread2 := ⟨_, _, ok_lread2 F24 B h_pnumber_of  xext_Wrong_Wrong_True xcls_Wrong xxcf_Wrong_place_why , PySem.W.mg_of X G a24, k24, b24⟩
  have h_ljust : Fd l.prog w K mg base "_law_just" 10 ["_law_found", "_law_due"] [] f_ljust := ⟨_, _, ok_ljust F25 (PySem.W.mg_of X G a25) k25 b25 B     8, PySem.W.mg_of X G a25, k25, b25⟩
  have h_lfilled : Fd l.prog w K mg base "_law_filled" 6 ["_law_cell_here", "_law_salt", "_law_front"] [] f_lfilled := ⟨_, _, ok_lfilled F26 B h_ldraws   , PySem.W.mg_of X G a26, k26, b26⟩
  have h_lrun : Fd l.prog w K mg base "_law_run" 2 ["_law_program", "_law_cells", "_law_mark"] [] f_lrun := ⟨_, _, ok_lrun F27 B    , PySem.W.mg_of X G a27, k27, b27⟩
  have h_lafter : Fd l.prog w K mg base "_law_after" 8 ["_law_program", "_law_front", "_law_cell_here", "_law_salt", "_law_many"] [] f_lafter := ⟨_, _, ok_lafter F28 B h_lfilled h_lrun   , PySem.W.mg_of X G a28, k28, b28⟩
  have h_lcaught : Fd l.prog w K mg base "_law_caught" 2 ["_law_form_here", "_law_row"] [] f_lcaught := ⟨_, _, ok_lcaught F29 B    , PySem.W.mg_of X G a29, k29, b29⟩
  have h_lread_row : Fd l.prog w K mg base "_law_read_row" 4 ["_law_form_here", "_law_row"] [] f_lread_row := ⟨_, _, ok_lread_row F30 B h_lpower   , PySem.W.mg_of X G a30, k30, b30⟩
  have h_lright9 : Fd l.prog w K mg base "_law_right" 12 ["_law_form_here", "_law_program", "_law_row", "_law_cell_here", "_law_salt"] [] f_lright9 := ⟨_, _, ok_lright9 F31 B h_pcaught h_ljust h_lcaught h_lread2 h_lread_row h_lafter   , PySem.W.mg_of X G a31, k31, b31⟩
  exact ok_law74 F32 B h_ldraws h_lcell h_lform h_ldressed h_lnumber h_pcheck_rows h_lright9   
end Tm
open PySem PySem.W PyProof.Rows in
set_option maxRecDepth 100000 in
set_option maxHeartbeats 0 in
theorem PySem.Challenge.cw_tensloft_k75_whole_caught_three_ways_holds : PySem.Challenge.rw_tensloft_k75_whole_caught_three_ways.Holds := by
  w_on; o_law; k_head; (case hw => w_witness2)
  k_fill
  refine Tm.walk_law (l := PySem.Challenge.rw_tensloft_k75_whole_caught_three_ways) (f := Tm.f_law74) (x := "_law_script") (k := 14) rfl rfl ⟨rfl, by decide, by decide⟩ (fun w h Y => PySem.W.kIn_of Y) Tm.law_true ?F
  case F =>
    intro w mg fa h KX G hmg
    refine' Tm.all_mk KX G hmg ?a0 ?l0 ?c0 ?k0 ?a1 ?l1 ?c1 ?k1 ?a2 ?l2 ?c2 ?k2 ?a3 ?l3 ?c3 ?k3 ?a4 ?l4 ?c4 ?k4 ?a5 ?l5 ?c5 ?k5 ?a6 ?l6 ?c6 ?k6 ?a7 ?l7 ?c7 ?k7 ?a8 ?l8 ?c8 ?k8 ?a9 ?l9 ?c9 ?k9 ?a10 ?l10 ?c10 ?k10 ?a11 ?l11 ?c11 ?k11 ?a12 ?l12 ?c12 ?k12 ?a13 ?l13 ?c13 ?k13 ?a14 ?l14 ?c14 ?k14 ?a15 ?l15 ?c15 ?k15 ?a16 ?l16 ?c16 ?k16 ?a17 ?l17 ?c17 ?k17 ?a18 ?l18 ?c18 ?k18 ?a19 ?l19 ?c19 ?k19 ?a20 ?l20 ?c20 ?k20 ?a21 ?l21 ?c21 ?k21 ?a22 ?l22 ?c22 ?k22 ?a23 ?l23 ?c23 ?k23 ?a24 ?l24 ?c24 ?k24 ?a25 ?l25 ?c25 ?k25 ?a26 ?l26 ?c26 ?k26 ?a27 ?l27 ?c27 ?k27 ?a28 ?l28 ?c28 ?k28 ?a29 ?l29 ?c29 ?k29 ?a30 ?l30 ?c30 ?k30 ?a31 ?l31 ?c31 ?k31 ?a32 ?l32 ?c32 ?k32 ?z_len ?z_range ?z_abs ?z_max ?z_min ?z_int ?z_str ?z_tuple ?z_list ?z_all ?z_any ?z_isinstance ?z_divmod ?z_sum ?z_zip ?z_enumerate ?z_reversed ?z_sorted ?z_dict ?z_set ?z_bool ?qa_IS_FIGURE ?qa_IS_ZONE ?qa_IS_SIGN ?qa_IS_NOUGHT ?qa_ALL_CELLS ?qa_SIGNS ?ql_SIGNS ?qe_SIGNS ?qz_SIGNS ?qa_FIGURES ?ql_FIGURES ?qe_FIGURES ?qz_FIGURES ?qa_TURNED ?qa_OTHER ?qa_FLAG ?qa_BLANK ?qa_ANSWER ?qa_ZONE_HALF ?qa_MINUS_HALVES ?ql_MINUS_HALVES ?qe_MINUS_HALVES ?qz_MINUS_HALVES ?n_LoftError ?n_Wrong ?b1_LoftError ?b2_LoftError ?b3_LoftError ?l_Wrong ?s_Wrong ?e_Wrong ?t_Wrong ?p_Wrong ?i_Wrong_ ?j_Wrong ?f_Wrong_place ?f_Wrong_why ?g_Wrong ?h_Wrong_ ?m_Wrong_ ?yxext_Wrong_Wrong_True ?yxxcf_Wrong_place_why
    (case a0 => k_is)
    (case l0 => k_is)
    (case c0 => k_is)
    (case k0 => k_is)
    (case a1 => k_is)
    (case l1 => k_is)
    (case c1 => k_is)
    (case k1 => k_is)
    (case a2 => k_is)
    (case l2 => k_is)
    (case c2 => k_is)
    (case k2 => k_is)
    (case a3 => k_is)
    (case l3 => k_is)
    (case c3 => k_is)
    (case k3 => k_is)
    (case a4 => k_is)
    (case l4 => k_is)
    (case c4 => k_is)
    (case k4 => k_is)
    (case a5 => k_is)
    (case l5 => k_is)
    (case c5 => k_is)
    (case k5 => k_is)
    (case a6 => k_is)
    (case l6 => k_is)
    (case c6 => k_is)
    (case k6 => k_is)
    (case a7 => k_is)
    (case l7 => k_is)
    (case c7 => k_is)
    (case k7 => k_is)
    (case a8 => k_is)
    (case l8 => k_is)
    (case c8 => k_is)
    (case k8 => k_is)
    (case a9 => k_is)
    (case l9 => k_is)
    (case c9 => k_is)
    (case k9 => k_is)
    (case a10 => k_is)
    (case l10 => k_is)
    (case c10 => k_is)
    (case k10 => k_is)
    (case a11 => k_is)
    (case l11 => k_is)
    (case c11 => k_is)
    (case k11 => k_is)
    (case a12 => k_is)
    (case l12 => k_is)
    (case c12 => k_is)
    (case k12 => k_is)
    (case a13 => k_is)
    (case l13 => k_is)
    (case c13 => k_is)
    (case k13 => k_is)
    (case a14 => k_is)
    (case l14 => k_is)
    (case c14 => k_is)
    (case k14 => k_is)
    (case a15 => k_is)
    (case l15 => k_is)
    (case c15 => k_is)
    (case k15 => k_is)
    (case a16 => k_is)
    (case l16 => k_is)
    (case c16 => k_is)
    (case k16 => k_is)
    (case a17 => k_is)
    (case l17 => k_is)
    (case c17 => k_is)
    (case k17 => k_is)
    (case a18 => k_is)
    (case l18 => k_is)
    (case c18 => k_is)
    (case k18 => k_is)
    (case a19 => k_is)
    (case l19 => k_is)
    (case c19 => k_is)
    (case k19 => k_is)
    (case a20 => k_is)
    (case l20 => k_is)
    (case c20 => k_is)
    (case k20 => k_is)
    (case a21 => k_is)
    (case l21 => k_is)
    (case c21 => k_is)
    (case k21 => k_is)
    (case a22 => k_is)
    (case l22 => k_is)
    (case c22 => k_is)
    (case k22 => k_is)
    (case a23 => k_is)
    (case l23 => k_is)
    (case c23 => k_is)
    (case k23 => k_is)
    (case a24 => k_is)
    (case l24 => k_is)
    (case c24 => k_is)
    (case k24 => k_is)
    (case a25 => k_is)
    (case l25 => k_is)
    (case c25 => k_is)
    (case k25 => k_is)
    (case a26 => k_is)
    (case l26 => k_is)
    (case c26 => k_is)
    (case k26 => k_is)
    (case a27 => k_is)
    (case l27 => k_is)
    (case c27 => k_is)
    (case k27 => k_is)
    (case a28 => k_is)
    (case l28 => k_is)
    (case c28 => k_is)
    (case k28 => k_is)
    (case a29 => k_is)
    (case l29 => k_is)
    (case c29 => k_is)
    (case k29 => k_is)
    (case a30 => k_is)
    (case l30 => k_is)
    (case c30 => k_is)
    (case k30 => k_is)
    (case a31 => k_is)
    (case l31 => k_is)
    (case c31 => k_is)
    (case k31 => k_is)
    (case a32 => k_is)
    (case l32 => k_is)
    (case c32 => k_is)
    (case k32 => k_is)
    (case z_len => k_is)
    (case z_range => k_is)
    (case z_abs => k_is)
    (case z_max => k_is)
    (case z_min => k_is)
    (case z_int => k_is)
    (case z_str => k_is)
    (case z_tuple => k_is)
    (case z_list => k_is)
    (case z_all => k_is)
    (case z_any => k_is)
    (case z_isinstance => k_is)
    (case z_divmod => k_is)
    (case z_sum => k_is)
    (case z_zip => k_is)
    (case z_enumerate => k_is)
    (case z_reversed => k_is)
    (case z_sorted => k_is)
    (case z_dict => k_is)
    (case z_set => k_is)
    (case z_bool => k_is)
    (case qa_IS_FIGURE => k_is)
    (case qa_IS_ZONE => k_is)
    (case qa_IS_SIGN => k_is)
    (case qa_IS_NOUGHT => k_is)
    (case qa_ALL_CELLS => k_is)
    (case qa_SIGNS => k_is)
    (case ql_SIGNS => k_is)
    (case qa_FIGURES => k_is)
    (case ql_FIGURES => k_is)
    (case qa_TURNED => k_is)
    (case qa_OTHER => k_is)
    (case qa_FLAG => k_is)
    (case qa_BLANK => k_is)
    (case qa_ANSWER => k_is)
    (case qa_ZONE_HALF => k_is)
    (case qa_MINUS_HALVES => k_is)
    (case ql_MINUS_HALVES => k_is)
    (case n_LoftError => k_is)
    (case n_Wrong => k_is)
    (case b1_LoftError => k_is)
    (case b2_LoftError => k_is)
    (case b3_LoftError => k_is)
    (case l_Wrong => k_is)
    (case s_Wrong => k_is)
    (case e_Wrong => k_is)
    (case t_Wrong => k_is)
    (case p_Wrong => k_is)
    (case i_Wrong_ => k_is)
    (case j_Wrong => k_is)
    (case f_Wrong_place => k_is)
    (case f_Wrong_why => k_is)
    (case g_Wrong => k_is)
    (case h_Wrong_ => k_is)
    (case m_Wrong_ => k_is)
    (case yxext_Wrong_Wrong_True => first | rfl | decide +kernel)
    (case yxxcf_Wrong_place_why => first | rfl | decide +kernel)
    (case qe_SIGNS => decide +kernel)
    (case qz_SIGNS => decide +kernel)
    (case qe_FIGURES => decide +kernel)
    (case qz_FIGURES => decide +kernel)
    (case qe_MINUS_HALVES => decide +kernel)
    (case qz_MINUS_HALVES => decide +kernel)
