import PyProof.Rows.All
import Wide.All
import OpenK.AllK
import Wide.FinOn
import HandS.ForMost
import HandS.ForExc
import HandS.Wide
import HandS.Evl
import HandS.TupAny
import HandS.TupMul
import HandS.NoneIn
import HandS.Zip
import HandS.IsInst
import HandS.Text
import HandS.StrMore
import HandS.Comp
import HandS.Style
import PyProof.StrOps2
import KE.GoesMore
import KE.GoesEnum
import KE.GoesZip
import HandS.ExcCtx
import HandS.ExcOwn
import HandS.ExcInit
import HandS.ExcIs
import HandS.ExcField
import HandS.Replace
import HandS.CallLocal
import HandS.WideBits
import HandS.Conv
import KE.GoesEnumKw
import PyProof.Rows.CallKwBuiltin
import HandS.HotCalls
import HandS.More
import HandS.RaiseMore
import HandS.TupLe
import HandS.Flt
import PySem.Challenge.RW_tensloft_k78_papers_refused
set_option Elab.async false
set_option linter.all false
set_option maxRecDepth 100000
set_option maxHeartbeats 2000000
namespace Tm
open PySem L2
inductive MV where
  | non | bl (b : Bool) | int (i : Int) | str (x : Str)
  | tup (xs : List MV) | lst (xs : List MV) | own (xs : List MV)
  | raw (v : V) | scr (ns : List Int)
  | fnc (x : Str)
  | obj (C : Str) (fs : List (Str × MV))
  | dct (ks : List Key) (xs : List MV)
  | dow (ks : List Key) (xs : List MV)
  | dot (ks : List (List Key)) (xs : List MV)
instance : Inhabited MV := ⟨.non⟩
abbrev Env := List (Option MV)
structure MX where
  cls : Str
  fs : List (Str × MV)
inductive Res (α : Type) where
  | ok (a : α) | exc (e : MX) (ρ : Env) | stuck
inductive Fl where
  | nx | br | ct | rt (x : MV)
open Evl (Ex ex_rd ex_l ex_t)
theorem _root_.Evl.Ex.back {H H' : Hp} {p : Addr} (e : Ex H H') (h : H' p = none) : H p = none := Evl.fresh_back e h
theorem _root_.Evl.Ex.both {H H' : Hp} {p : Addr} {o : HO} (e : Ex H H') (h : H' p = none) : Ex (upd H p o) (upd H' p o) := fun a u ha => by
  by_cases hp : a = p
  · subst hp; rw [upd_same] at ha ⊢; exact ha
  · rw [upd_ne hp] at ha ⊢; exact e a u ha
theorem _root_.Evl.Ex.updL {H H' : Hp} {p : Addr} {o : HO} (e : Ex H H') (h : H' p = some o) : Ex (upd H p o) H' := fun a u ha => by
  by_cases hp : a = p
  · subst hp; rw [upd_same] at ha; cases ha; exact h
  · rw [upd_ne hp] at ha; exact e a u ha
mutual
def RV (K : PySem.W.Frag) (H : Hp) : MV → V → Prop
  | .non, v => v = .non
  | .bl b, v => v = .bl b
  | .int i, v => v = .int i
  | .str x, v => v = .str x
  | .tup xs, v => ∃ a vs, v = .ref a ∧ SqT K H a vs ∧ RVs K H xs vs
  | .lst xs, v => ∃ a vs, v = .ref a ∧ H a = some (.lst vs) ∧ RVs K H xs vs
  | .own _, _ => False
  | .raw w, v => v = w
  | .scr ns, v => ∃ a, v = .ref a ∧ SqL K H a (ns.map V.int)
  | .fnc x, v => ∃ a, v = .ref a ∧ PySem.W.nsIn K mainGlobals x = some (some (.ref a))
  | .obj _ _, _ => False
  | .dct ks xs, v => ∃ a vs, v = .ref a ∧ H a = some (.dK (ks.zip vs)) ∧ ks.length = xs.length ∧ RVs K H xs vs
  | .dow _ _, _ => False
  | .dot _ _, _ => False
def RVs (K : PySem.W.Frag) (H : Hp) : List MV → List V → Prop
  | [], vs => vs = []
  | x :: xs, vs => ∃ v r, vs = v :: r ∧ RV K H x v ∧ RVs K H xs r
end
mutual
theorem RV.mono {K : PySem.W.Frag} {H H' : Hp} (e : Ex H H') : ∀ (x : MV) (v : V), RV K H x v → RV K H' x v
  | .non, v, h => by unfold RV at h ⊢; exact h
  | .bl b, v, h => by unfold RV at h ⊢; exact h
  | .int i, v, h => by unfold RV at h ⊢; exact h
  | .str x, v, h => by unfold RV at h ⊢; exact h
  | .tup xs, v, h => by
    unfold RV at h ⊢
    obtain ⟨a, vs, e1, e2, e3⟩ := h
    exact ⟨a, vs, e1, ex_t e e2, RVs.mono e xs vs e3⟩
  | .lst xs, v, h => by
    unfold RV at h ⊢
    obtain ⟨a, vs, e1, e2, e3⟩ := h
    exact ⟨a, vs, e1, e _ _ e2, RVs.mono e xs vs e3⟩
  | .own xs, v, h => by unfold RV at h; exact h.elim
  | .raw w, v, h => by unfold RV at h ⊢; exact h
  | .scr ns, v, h => by
    unfold RV at h ⊢
    obtain ⟨a, e1, e2⟩ := h
    exact ⟨a, e1, ex_l e e2⟩
  | .fnc x, v, h => by unfold RV at h ⊢; exact h
  | .obj C fs, v, h => by unfold RV at h; exact h.elim
  | .dct ks xs, v, h => by
    unfold RV at h ⊢
    obtain ⟨a, vs, e1, e2, e3, e4⟩ := h
    exact ⟨a, vs, e1, e _ _ e2, e3, RVs.mono e xs vs e4⟩
  | .dow ks xs, v, h => by unfold RV at h; exact h.elim
  | .dot ks xs, v, h => by unfold RV at h; exact h.elim
theorem RVs.mono {K : PySem.W.Frag} {H H' : Hp} (e : Ex H H') : ∀ (xs : List MV) (vs : List V), RVs K H xs vs → RVs K H' xs vs
  | [], vs, h => by unfold RVs at h ⊢; exact h
  | x :: xs, vs, h => by
    unfold RVs at h ⊢
    obtain ⟨v, r, e1, e2, e3⟩ := h
    exact ⟨v, r, e1, RV.mono e x v e2, RVs.mono e xs r e3⟩
end
section
variable {K : PySem.W.Frag} {H : Hp}
theorem RV.int {i : Int} {v : V} : RV K H (.int i) v ↔ v = .int i := by unfold RV; rfl
theorem RV.bl {i : Bool} {v : V} : RV K H (.bl i) v ↔ v = .bl i := by unfold RV; rfl
theorem RV.str {i : Str} {v : V} : RV K H (.str i) v ↔ v = .str i := by unfold RV; rfl
theorem RV.non {v : V} : RV K H .non v ↔ v = .non := by unfold RV; rfl
theorem RV.raw {w v : V} : RV K H (.raw w) v ↔ v = w := by unfold RV; rfl
theorem RV.tup {xs : List MV} {v : V} : RV K H (.tup xs) v ↔ ∃ a vs, v = .ref a ∧ SqT K H a vs ∧ RVs K H xs vs := by
  constructor <;> intro h <;> (unfold RV at *; exact h)
theorem RV.lst {xs : List MV} {v : V} : RV K H (.lst xs) v ↔ ∃ a vs, v = .ref a ∧ H a = some (.lst vs) ∧ RVs K H xs vs := by
  constructor <;> intro h <;> (unfold RV at *; exact h)
theorem RV.dct {ks : List Key} {xs : List MV} {v : V} : RV K H (.dct ks xs) v ↔ ∃ a vs, v = .ref a ∧ H a = some (.dK (ks.zip vs)) ∧ ks.length = xs.length ∧ RVs K H xs vs := by
  constructor <;> intro h <;> (unfold RV at *; exact h)
theorem RV.scr {ns : List Int} {v : V} : RV K H (.scr ns) v ↔ ∃ a, v = .ref a ∧ SqL K H a (ns.map V.int) := by
  constructor <;> intro h <;> (unfold RV at *; exact h)
theorem RV.fnc {x : Str} {v : V} : RV K H (.fnc x) v ↔ ∃ a, v = .ref a ∧ PySem.W.nsIn K mainGlobals x = some (some (.ref a)) := by
  constructor <;> intro h <;> (unfold RV at *; exact h)
theorem RVs.nil {vs : List V} : RVs K H [] vs ↔ vs = [] := by unfold RVs; rfl
theorem RVs.cons {x : MV} {xs : List MV} {vs : List V} : RVs K H (x :: xs) vs ↔ ∃ v r, vs = v :: r ∧ RV K H x v ∧ RVs K H xs r := by
  rw [RVs]
theorem RVs.length : ∀ {xs : List MV} {vs : List V}, RVs K H xs vs → vs.length = xs.length
  | [], vs, h => by rw [RVs.nil] at h; subst h; rfl
  | x :: xs, vs, h => by
    rw [RVs.cons] at h
    obtain ⟨v, r, rfl, _, h⟩ := h
    simp [RVs.length h]
theorem RVs.get : ∀ {xs : List MV} {vs : List V} {i : Nat} {x : MV}, RVs K H xs vs → xs[i]? = some x → ∃ v, vs[i]? = some v ∧ RV K H x v
  | [], _, i, x, _, e => by simp at e
  | y :: xs, vs, 0, x, h, e => by
    rw [RVs.cons] at h
    obtain ⟨v, r, rfl, h1, _⟩ := h
    simp at e; subst e; exact ⟨v, rfl, h1⟩
  | y :: xs, vs, i + 1, x, h, e => by
    rw [RVs.cons] at h
    obtain ⟨v, r, rfl, _, h⟩ := h
    obtain ⟨u, h1, h2⟩ := RVs.get (i := i) (x := x) h (by simpa using e)
    exact ⟨u, by simpa using h1, h2⟩
theorem RVs.append : ∀ {xs ys : List MV} {vs ws : List V}, RVs K H xs vs → RVs K H ys ws → RVs K H (xs ++ ys) (vs ++ ws)
  | [], ys, vs, ws, h, h2 => by rw [RVs.nil] at h; subst h; exact h2
  | x :: xs, ys, vs, ws, h, h2 => by
    rw [RVs.cons] at h
    obtain ⟨v, r, rfl, h1, h⟩ := h
    show RVs K H (x :: (xs ++ ys)) (v :: (r ++ ws))
    rw [RVs.cons]
    exact ⟨v, r ++ ws, rfl, h1, RVs.append h h2⟩
theorem RVs.take : ∀ {xs : List MV} {vs : List V} (n : Nat), RVs K H xs vs → RVs K H (xs.take n) (vs.take n)
  | _, _, 0, _ => by simp [RVs]
  | [], vs, n + 1, h => by rw [RVs.nil] at h; subst h; simp [RVs]
  | x :: xs, vs, n + 1, h => by
    rw [RVs.cons] at h
    obtain ⟨v, r, rfl, h1, h⟩ := h
    show RVs K H (x :: xs.take n) (v :: r.take n)
    rw [RVs.cons]
    exact ⟨v, _, rfl, h1, RVs.take n h⟩
theorem RVs.drop : ∀ {xs : List MV} {vs : List V} (n : Nat), RVs K H xs vs → RVs K H (xs.drop n) (vs.drop n)
  | _, _, 0, h => h
  | [], vs, n + 1, h => by rw [RVs.nil] at h; subst h; simp [RVs]
  | x :: xs, vs, n + 1, h => by
    rw [RVs.cons] at h
    obtain ⟨v, r, rfl, h1, h⟩ := h
    exact RVs.drop n h
theorem RVs.set : ∀ {xs : List MV} {vs : List V} (i : Nat) {x : MV} {v : V}, RVs K H xs vs → RV K H x v → RVs K H (xs.set i x) (vs.set i v)
  | [], vs, i, x, v, h, _ => by rw [RVs.nil] at h; subst h; simp [RVs]
  | y :: xs, vs, 0, x, v, h, h2 => by
    rw [RVs.cons] at h
    obtain ⟨u, r, rfl, h1, h⟩ := h
    show RVs K H (x :: xs) (v :: r)
    rw [RVs.cons]; exact ⟨v, r, rfl, h2, h⟩
  | y :: xs, vs, i + 1, x, v, h, h2 => by
    rw [RVs.cons] at h
    obtain ⟨u, r, rfl, h1, h⟩ := h
    show RVs K H (y :: xs.set i x) (u :: r.set i v)
    rw [RVs.cons]; exact ⟨u, _, rfl, h1, RVs.set i h h2⟩
theorem RVs.reverse : ∀ {xs : List MV} {vs : List V}, RVs K H xs vs → RVs K H xs.reverse vs.reverse
  | [], vs, h => by rw [RVs.nil] at h; subst h; simp [RVs]
  | x :: xs, vs, h => by
    rw [RVs.cons] at h
    obtain ⟨v, r, rfl, h1, h⟩ := h
    rw [List.reverse_cons, List.reverse_cons]
    refine RVs.append (RVs.reverse h) ?_
    rw [RVs.cons]; exact ⟨v, [], rfl, h1, RVs.nil.mpr rfl⟩
theorem RVs.ints : ∀ {ns : List Int} {vs : List V}, RVs K H (ns.map MV.int) vs ↔ vs = ns.map V.int
  | [], vs => RVs.nil
  | n :: ns, vs => by
    rw [List.map_cons, RVs.cons]
    constructor
    · rintro ⟨v, r, rfl, h1, h2⟩
      rw [RV.int.mp h1, RVs.ints.mp h2]; rfl
    · rintro rfl
      exact ⟨_, _, rfl, RV.int.mpr rfl, RVs.ints.mpr rfl⟩
end
def OF (K : PySem.W.Frag) (Hk H : Hp) : MV → V → List Addr → Prop
  | .own xs, v, A => ∃ p vs, v = .ref p ∧ A = [p] ∧ H p = some (.lst vs) ∧ RVs K Hk xs vs
  | .dow ks xs, v, A => ∃ p vs, v = .ref p ∧ A = [p] ∧ H p = some (.dK (ks.zip vs)) ∧ ks.length = xs.length ∧ RVs K Hk xs vs
  | .dot ks xs, v, A => ∃ p vs, v = .ref p ∧ A = [p] ∧ H p = some (.dT (ks.zip vs)) ∧ ks.length = xs.length ∧ RVs K Hk xs vs
  | x, v, A => A = [] ∧ RV K Hk x v
def OFs (K : PySem.W.Frag) (Hk H : Hp) : List (Str × MV) → List (Str × V) → List Addr → Prop
  | [], vs, A => vs = [] ∧ A = []
  | (n, x) :: xs, vs, A => ∃ v r B C, vs = (n, v) :: r ∧ A = B ++ C ∧ OF K Hk H x v B ∧ OFs K Hk H xs r C
def OV (K : PySem.W.Frag) (Hk H : Hp) : MV → V → List Addr → Prop
  | .obj C fs, v, A => ∃ p CA dx vfs B, v = .ref p ∧ A = p :: B ∧ PySem.W.nsIn K mainGlobals C = some (some (.ref CA)) ∧ H p = some (.ins CA dx vfs) ∧ OFs K Hk H fs vfs B ∧ (p :: B).Nodup
  | x, v, A => OF K Hk H x v A
def MV.per : MV → Bool
  | .own _ => false
  | .obj _ _ => false
  | .dow _ _ => false
  | .dot _ _ => false
  | _ => true
theorem OF.per {K : PySem.W.Frag} {Hk H : Hp} {x : MV} {v : V} {A : List Addr} (h : x.per = true) : OF K Hk H x v A ↔ A = [] ∧ RV K Hk x v := by
  cases x <;> first | (simp [MV.per] at h; done) | (unfold OF; rfl)
theorem OV.per {K : PySem.W.Frag} {Hk H : Hp} {x : MV} {v : V} {A : List Addr} (h : x.per = true) : OV K Hk H x v A ↔ A = [] ∧ RV K Hk x v := by
  cases x <;> first | (simp [MV.per] at h; done) | (unfold OV OF; rfl)
theorem OV.own {K : PySem.W.Frag} {Hk H : Hp} {xs : List MV} {v : V} {A : List Addr} : OV K Hk H (.own xs) v A ↔ ∃ p vs, v = .ref p ∧ A = [p] ∧ H p = some (.lst vs) ∧ RVs K Hk xs vs := by
  unfold OV OF; rfl
theorem RV.isper {K : PySem.W.Frag} {H : Hp} {x : MV} {v : V} (h : RV K H x v) : x.per = true := by
  cases x <;> first | rfl | (unfold RV at h; exact h.elim)
theorem RV.ov {K : PySem.W.Frag} {Hk H : Hp} {x : MV} {v : V} (h : RV K Hk x v) : OV K Hk H x v [] := (OV.per h.isper).mpr ⟨rfl, h⟩
theorem OF.move {K : PySem.W.Frag} {Hk Hk' H H' : Hp} {x : MV} {v : V} {A : List Addr} (h : OF K Hk H x v A) (e : Ex Hk Hk') (k : ∀ a ∈ A, ∀ o, H a = some o → H' a = some o) : OF K Hk' H' x v A := by
  cases x with
  | own xs =>
    unfold OF at h ⊢
    obtain ⟨p, vs, e1, e2, e3, e4⟩ := h
    exact ⟨p, vs, e1, e2, k p (by rw [e2]; simp) _ e3, e4.mono e⟩
  | dow ks xs =>
    unfold OF at h ⊢
    obtain ⟨p, vs, e1, e2, e3, e5, e4⟩ := h
    exact ⟨p, vs, e1, e2, k p (by rw [e2]; simp) _ e3, e5, e4.mono e⟩
  | dot ks xs =>
    unfold OF at h ⊢
    obtain ⟨p, vs, e1, e2, e3, e5, e4⟩ := h
    exact ⟨p, vs, e1, e2, k p (by rw [e2]; simp) _ e3, e5, e4.mono e⟩
  | obj C fs => exact (show False by unfold OF at h; unfold RV at h; exact h.2).elim
  | _ =>
    unfold OF at h ⊢
    exact ⟨h.1, RV.mono e _ _ h.2⟩
theorem OFs.move {K : PySem.W.Frag} {Hk Hk' H H' : Hp} : ∀ {fs : List (Str × MV)} {vs : List (Str × V)} {A : List Addr}, OFs K Hk H fs vs A → Ex Hk Hk' → (∀ a ∈ A, ∀ o, H a = some o → H' a = some o) → OFs K Hk' H' fs vs A
  | [], _, _, h, _, _ => h
  | (n, x) :: fs, vs, A, h, e, k => by
    obtain ⟨v, r, B, C, e1, e2, h1, h2⟩ := h
    refine ⟨v, r, B, C, e1, e2, h1.move e fun a ha => k a (by rw [e2]; exact List.mem_append_left _ ha), OFs.move h2 e fun a ha => k a (by rw [e2]; exact List.mem_append_right _ ha)⟩
theorem OV.move {K : PySem.W.Frag} {Hk Hk' H H' : Hp} {x : MV} {v : V} {A : List Addr} (h : OV K Hk H x v A) (e : Ex Hk Hk') (k : ∀ a ∈ A, ∀ o, H a = some o → H' a = some o) : OV K Hk' H' x v A := by
  cases x with
  | obj C fs =>
    unfold OV at h ⊢
    obtain ⟨p, CA, dx, vfs, B, e1, e2, e0, e3, e4, e5⟩ := h
    exact ⟨p, CA, dx, vfs, B, e1, e2, e0, k p (by rw [e2]; simp) _ e3, OFs.move e4 e fun a ha => k a (by rw [e2]; exact List.mem_cons_of_mem _ ha), e5⟩
  | _ => (unfold OV at h ⊢; exact OF.move h e k)
theorem OF.there {K : PySem.W.Frag} {Hk H : Hp} {x : MV} {v : V} {A : List Addr} (h : OF K Hk H x v A) : ∀ a ∈ A, ∃ o, H a = some o := by
  cases x with
  | own xs =>
    unfold OF at h
    obtain ⟨p, vs, e1, e2, e3, e4⟩ := h
    intro a ha
    rw [e2] at ha
    simp at ha
    subst ha
    exact ⟨_, e3⟩
  | dow ks xs =>
    unfold OF at h
    obtain ⟨p, vs, e1, e2, e3, e5, e4⟩ := h
    intro a ha
    rw [e2] at ha
    simp at ha
    subst ha
    exact ⟨_, e3⟩
  | dot ks xs =>
    unfold OF at h
    obtain ⟨p, vs, e1, e2, e3, e5, e4⟩ := h
    intro a ha
    rw [e2] at ha
    simp at ha
    subst ha
    exact ⟨_, e3⟩
  | _ =>
    unfold OF at h
    intro a ha
    rw [h.1] at ha
    cases ha
theorem OFs.there {K : PySem.W.Frag} {Hk H : Hp} : ∀ {fs : List (Str × MV)} {vs : List (Str × V)} {A : List Addr}, OFs K Hk H fs vs A → ∀ a ∈ A, ∃ o, H a = some o
  | [], _, _, h, a, ha => by rw [h.2] at ha; cases ha
  | (n, x) :: fs, vs, A, h, a, ha => by
    obtain ⟨v, r, B, C, e1, e2, h1, h2⟩ := h
    rw [e2] at ha
    rcases List.mem_append.mp ha with ha | ha
    · exact h1.there a ha
    · exact OFs.there h2 a ha
theorem OV.there {K : PySem.W.Frag} {Hk H : Hp} {x : MV} {v : V} {A : List Addr} (h : OV K Hk H x v A) : ∀ a ∈ A, ∃ o, H a = some o := by
  cases x with
  | obj C fs =>
    unfold OV at h
    obtain ⟨p, CA, dx, vfs, B, e1, e2, e0, e3, e4, e5⟩ := h
    intro a ha
    rw [e2] at ha
    rcases List.mem_cons.mp ha with rfl | ha
    · exact ⟨_, e3⟩
    · exact OFs.there e4 a ha
  | _ => (unfold OV at h; exact OF.there h)
def put (ow : Nat → List Addr) (i : Nat) (A : List Addr) : Nat → List Addr := fun j => if j = i then A else ow j
theorem put_same {ow : Nat → List Addr} {i : Nat} {A : List Addr} : put ow i A i = A := if_pos rfl
theorem put_ne {ow : Nat → List Addr} {i j : Nat} {A : List Addr} (h : j ≠ i) : put ow i A j = ow j := if_neg h
structure SL (K : PySem.W.Frag) (F Hk H : Hp) (ow : Nat → List Addr) (σ : St) (ρ : Env) : Prop where
  s : ∀ (i : Nat) x, ρ[i]? = some (some x) → ∃ v, σ[i]? = some (some v) ∧ OV K Hk H x v (ow i)
  f : ∀ i a, a ∈ ow i → Hk a = none ∧ F a = none ∧ ∃ o, H a = some o
  w : ∀ i, ow i ≠ [] → i < ρ.length
  d : ∀ i j a, i ≠ j → a ∈ ow i → a ∉ ow j
structure RS (K : PySem.W.Frag) (F Hk H : Hp) (bp : List (Nat × Addr)) (σ : St) (ρ : Env) : Prop where
  len : σ.length = ρ.length
  ex : Ex Hk H
  fr : Ex F H
  frk : ∀ a o, F a = some o → Hk a = none
  ow : ∃ ow, SL K F Hk H ow σ ρ
  bor : ∀ q ∈ bp, σ[q.1]? = some (some (.ref q.2))
theorem set_get {α : Type} {l : List α} {i j : Nat} {x y : α} (h : (l.set i x)[j]? = some y) : (j = i ∧ y = x) ∨ (j ≠ i ∧ l[j]? = some y) := by
  by_cases e : i = j
  · subst e
    rw [List.getElem?_set] at h
    simp at h
    exact .inl ⟨rfl, h.2.symm⟩
  · rw [List.getElem?_set_ne e] at h
    exact .inr ⟨fun q => e q.symm, h⟩
theorem app_get {α : Type} {l : List α} {j : Nat} {x y : α} (h : (l ++ [x])[j]? = some y) : (j = l.length ∧ y = x) ∨ (j < l.length ∧ l[j]? = some y) := by
  by_cases e : j < l.length
  · rw [List.getElem?_append_left e] at h; exact .inr ⟨e, h⟩
  · rw [List.getElem?_append_right (Nat.le_of_not_lt e)] at h
    have := (List.getElem?_eq_some_iff.mp h).1
    simp at this
    have ej : j = l.length := by omega
    subst ej
    simp at h
    exact .inl ⟨rfl, h.symm⟩
theorem lt_get {α : Type} {l : List α} {j : Nat} {y : α} (h : l[j]? = some y) : j < l.length := (List.getElem?_eq_some_iff.mp h).1
section
variable {K : PySem.W.Frag} {F Hk Hk' H H' : Hp} {bp : List (Nat × Addr)} {σ : St} {ρ : Env} {ow : Nat → List Addr}
theorem SL.out (S : SL K F Hk H ow σ ρ) {i : Nat} (h : ρ.length ≤ i) : ow i = [] := by
  cases e : ow i with
  | nil => rfl
  | cons a r => exact absurd (S.w i (by rw [e]; simp)) (by omega)
theorem SL.fresh (S : SL K F Hk H ow σ ρ) {p : Addr} (h : H p = none) (i : Nat) : p ∉ ow i := fun m => by
  obtain ⟨_, _, o, e⟩ := S.f i p m
  rw [h] at e; cases e
theorem SL.step (S : SL K F Hk H ow σ ρ) (e : Ex Hk Hk') (k : ∀ i, ∀ a ∈ ow i, H' a = H a ∧ Hk' a = none) : SL K F Hk' H' ow σ ρ := by
  refine ⟨fun i x h => ?_, fun i a h => ?_, S.w, S.d⟩
  · obtain ⟨v, ev, o⟩ := S.s i x h
    exact ⟨v, ev, o.move e fun a ha u hu => by rw [(k i a ha).1]; exact hu⟩
  · obtain ⟨f1, f2, o, f3⟩ := S.f i a h
    exact ⟨(k i a h).2, f2, o, by rw [(k i a h).1]; exact f3⟩
theorem SL.set (S : SL K F Hk H ow σ ρ) (hl : σ.length = ρ.length) {i : Nat} {x : MV} {v : V} (hi : i < ρ.length) (r : RV K Hk x v) : SL K F Hk H (put ow i []) (σ.set i (some v)) (ρ.set i (some x)) := by
  refine ⟨fun j y h => ?_, fun j a h => ?_, fun j h => ?_, fun j k a hjk h => ?_⟩
  · rcases set_get h with ⟨rfl, e⟩ | ⟨ne, e⟩
    · cases e
      refine ⟨v, by rw [List.getElem?_set_self (by rw [hl]; exact hi)], ?_⟩
      rw [put_same]; exact r.ov
    · obtain ⟨u, e1, e2⟩ := S.s j y e
      exact ⟨u, by rw [List.getElem?_set_ne (Ne.symm ne)]; exact e1, by rw [put_ne ne]; exact e2⟩
  · by_cases e : j = i
    · rw [e, put_same] at h; cases h
    · rw [put_ne e] at h; exact S.f j a h
  · by_cases e : j = i
    · rw [e, put_same] at h; exact (h rfl).elim
    · rw [put_ne e] at h; rw [List.length_set]; exact S.w j h
  · by_cases e : j = i
    · rw [e, put_same] at h; cases h
    · rw [put_ne e] at h
      by_cases e2 : k = i
      · rw [e2, put_same]; simp
      · rw [put_ne e2]; exact S.d j k a hjk h
theorem SL.push (S : SL K F Hk H ow σ ρ) (hl : σ.length = ρ.length) {x : MV} {v : V} {A : List Addr} (o : OV K Hk H x v A) (hf : ∀ a ∈ A, Hk a = none ∧ F a = none) (hd : ∀ i, ∀ a ∈ A, a ∉ ow i) :
    SL K F Hk H (put ow ρ.length A) (σ ++ [some v]) (ρ ++ [some x]) := by
  refine ⟨fun j y h => ?_, fun j a h => ?_, fun j h => ?_, fun j k a hjk h => ?_⟩
  · rcases app_get h with ⟨rfl, e⟩ | ⟨lt, e⟩
    · cases e
      refine ⟨v, by rw [← hl]; simp, ?_⟩
      rw [put_same]; exact o
    · obtain ⟨u, e1, e2⟩ := S.s j y e
      exact ⟨u, by rw [List.getElem?_append_left (by rw [hl]; exact lt)]; exact e1, by rw [put_ne (Nat.ne_of_lt lt)]; exact e2⟩
  · by_cases e : j = ρ.length
    · rw [e, put_same] at h; exact ⟨(hf a h).1, (hf a h).2, o.there a h⟩
    · rw [put_ne e] at h; exact S.f j a h
  · by_cases e : j = ρ.length
    · rw [e]; simp
    · rw [put_ne e] at h; have := S.w j h; simp; omega
  · by_cases e : j = ρ.length
    · rw [e, put_same] at h
      rw [put_ne (fun z => hjk (e.trans z.symm))]
      exact hd k a h
    · rw [put_ne e] at h
      by_cases e2 : k = ρ.length
      · rw [e2, put_same]; exact fun z => hd j a z h
      · rw [put_ne e2]; exact S.d j k a hjk h
theorem SL.take (S : SL K F Hk H ow (σ ++ [some v]) (ρ ++ [some x])) (hl : σ.length = ρ.length) {i : Nat} (hi : i < ρ.length) : SL K F Hk H (put (put ow i (ow ρ.length)) ρ.length []) (σ.set i (some v)) (ρ.set i (some x)) := by
  have ne : i ≠ ρ.length := Nat.ne_of_lt hi
  obtain ⟨u, hu, ou⟩ := S.s ρ.length x (by simp)
  have ev : u = v := by rw [← hl] at hu; simpa using hu.symm
  subst ev
  have lt : ∀ j a, a ∈ put (put ow i (ow ρ.length)) ρ.length [] j → (j = i ∧ a ∈ ow ρ.length) ∨ (j ≠ i ∧ j < ρ.length ∧ a ∈ ow j) := fun j a h => by
    by_cases e : j = ρ.length
    · rw [e, put_same] at h; cases h
    · rw [put_ne e] at h
      by_cases e2 : j = i
      · rw [e2, put_same] at h; exact .inl ⟨e2, h⟩
      · rw [put_ne e2] at h
        have := S.w j (by intro z; rw [z] at h; cases h)
        simp at this
        exact .inr ⟨e2, by omega, h⟩
  refine ⟨fun j y h => ?_, fun j a h => ?_, fun j h => ?_, fun j k a hjk h => ?_⟩
  · rcases set_get h with ⟨rfl, e⟩ | ⟨ne2, e⟩
    · cases e
      refine ⟨u, by rw [List.getElem?_set_self (by rw [hl]; exact hi)], ?_⟩
      rw [put_ne ne, put_same]; exact ou
    · have lj := lt_get e
      obtain ⟨w, e1, e2⟩ := S.s j y (by rw [List.getElem?_append_left lj]; exact e)
      rw [List.getElem?_append_left (by rw [hl]; exact lj)] at e1
      exact ⟨w, by rw [List.getElem?_set_ne (Ne.symm ne2)]; exact e1, by rw [put_ne (Nat.ne_of_lt lj), put_ne ne2]; exact e2⟩
  · rcases lt j a h with ⟨_, m⟩ | ⟨_, _, m⟩
    · exact S.f _ a m
    · exact S.f _ a m
  · rw [List.length_set]
    cases e : put (put ow i (ow ρ.length)) ρ.length [] j with
    | nil => exact (h e).elim
    | cons a r =>
      rcases lt j a (by rw [e]; simp) with ⟨e, _⟩ | ⟨_, l, _⟩
      · rw [e]; exact hi
      · exact l
  · intro hk
    rcases lt j a h with ⟨e1, m⟩ | ⟨e1, l1, m⟩ <;> rcases lt k a hk with ⟨e2, m2⟩ | ⟨e2, l2, m2⟩
    · exact hjk (e1.trans e2.symm)
    · exact S.d ρ.length k a (by omega) m m2
    · exact S.d j ρ.length a (by omega) m m2
    · exact S.d j k a hjk m m2
theorem SL.drop (S : SL K F Hk H ow (σ ++ [y]) (ρ ++ [x])) (hl : σ.length = ρ.length) : SL K F Hk H (put ow ρ.length []) σ ρ := by
  refine ⟨fun j y h => ?_, fun j a h => ?_, fun j h => ?_, fun j k a hjk h => ?_⟩
  · have lj := lt_get h
    obtain ⟨w, e1, e2⟩ := S.s j y (by rw [List.getElem?_append_left lj]; exact h)
    rw [List.getElem?_append_left (by rw [hl]; exact lj)] at e1
    exact ⟨w, e1, by rw [put_ne (Nat.ne_of_lt lj)]; exact e2⟩
  · by_cases e : j = ρ.length
    · rw [e, put_same] at h; cases h
    · rw [put_ne e] at h; exact S.f j a h
  · by_cases e : j = ρ.length
    · rw [e, put_same] at h; exact (h rfl).elim
    · rw [put_ne e] at h; have := S.w j h; simp at this; omega
  · by_cases e : j = ρ.length
    · rw [e, put_same] at h; cases h
    · rw [put_ne e] at h
      by_cases e2 : k = ρ.length
      · rw [e2, put_same]; simp
      · rw [put_ne e2]; exact S.d j k a hjk h
theorem RS.get (S : RS K F Hk H bp σ ρ) {i : Nat} {x : MV} (h : ρ[i]? = some (some x)) (hp : x.per = true) : ∃ v, σ[i]? = some (some v) ∧ RV K Hk x v := by
  obtain ⟨ow, s⟩ := S.ow
  obtain ⟨v, e, o⟩ := s.s i x h
  exact ⟨v, e, ((OV.per hp).mp o).2⟩
theorem RS.getOwn (S : RS K F Hk H bp σ ρ) {i : Nat} {xs : List MV} (h : ρ[i]? = some (some (.own xs))) : ∃ p vs, σ[i]? = some (some (.ref p)) ∧ H p = some (.lst vs) ∧ RVs K Hk xs vs ∧ Hk p = none ∧ F p = none := by
  obtain ⟨ow, s⟩ := S.ow
  obtain ⟨v, e, o⟩ := s.s i _ h
  obtain ⟨p, vs, e1, e2, e3, e4⟩ := OV.own.mp o
  have m : p ∈ ow i := by rw [e2]; simp
  exact ⟨p, vs, by rw [e, e1], e3, e4, (s.f i p m).1, (s.f i p m).2.1⟩
theorem RS.step (S : RS K F Hk H bp σ ρ) (e : Ex Hk Hk') (e' : Ex Hk' H') (k : ∀ a o, Hk a = none → H a = some o → H' a = some o ∧ Hk' a = none) : RS K F Hk' H' bp σ ρ := by
  obtain ⟨ow, s⟩ := S.ow
  refine ⟨S.len, e', fun a o h => (k a o (S.frk a o h) (S.fr a o h)).1, fun a o h => (k a o (S.frk a o h) (S.fr a o h)).2, ⟨ow, s.step e fun i a h => ?_⟩, S.bor⟩
  obtain ⟨f1, _, o, f2⟩ := s.f i a h
  exact ⟨((k a o f1 f2).1).trans f2.symm, (k a o f1 f2).2⟩
theorem RS.new (S : RS K F Hk H bp σ ρ) {p : Addr} {o : HO} (h : H p = none) : RS K F (upd Hk p o) (upd H p o) bp σ ρ :=
  S.step (Ex.new (S.ex.back h)) (S.ex.both h) fun a u hk ha => by
    have ne := ne_of_none ha h
    rw [upd_ne ne, upd_ne ne]
    exact ⟨ha, hk⟩
theorem RS.more (S : RS K F Hk H bp σ ρ) {p : Addr} {o : HO} (h : H p = none) : RS K F Hk (upd H p o) bp σ ρ :=
  S.step (Ex.refl _) (S.ex.mut (S.ex.back h)) fun a u hk ha => by
    rw [upd_ne (ne_of_none ha h)]
    exact ⟨ha, hk⟩
theorem RS.set (S : RS K F Hk H bp σ ρ) {i : Nat} {x : MV} {v : V} (hi : i < ρ.length) (r : RV K Hk x v) (hb : ∀ q ∈ bp, q.1 ≠ i) : RS K F Hk H bp (σ.set i (some v)) (ρ.set i (some x)) := by
  obtain ⟨ow, s⟩ := S.ow
  exact ⟨by simp [S.len], S.ex, S.fr, S.frk, ⟨_, s.set S.len hi r⟩, fun q hq => by rw [List.getElem?_set_ne (Ne.symm (hb q hq))]; exact S.bor q hq⟩
theorem RS.bor_app (S : RS K F Hk H bp σ ρ) (y : Option V) : ∀ q ∈ bp, (σ ++ [y])[q.1]? = some (some (.ref q.2)) := fun q hq => by
  have q1 := S.bor q hq
  rw [List.getElem?_append_left (lt_get q1)]; exact q1
theorem RS.push (S : RS K F Hk H bp σ ρ) {x : MV} {v : V} (r : RV K Hk x v) : RS K F Hk H bp (σ ++ [some v]) (ρ ++ [some x]) := by
  obtain ⟨ow, s⟩ := S.ow
  exact ⟨by simp [S.len], S.ex, S.fr, S.frk, ⟨_, s.push S.len r.ov (fun _ h => nomatch h) (fun _ _ h => nomatch h)⟩, S.bor_app _⟩
theorem RS.pushOwn (S : RS K F Hk H bp σ ρ) {p : Addr} {xs : List MV} {vs : List V} (h : H p = none) (r : RVs K Hk xs vs) : RS K F Hk (upd H p (.lst vs)) bp (σ ++ [some (.ref p)]) (ρ ++ [some (.own xs)]) := by
  obtain ⟨ow, s⟩ := S.ow
  have S' := S.more (o := .lst vs) h
  have s' : SL K F Hk (upd H p (.lst vs)) ow σ ρ := s.step (Ex.refl _) fun i a ha => by
    obtain ⟨f1, f2, o, f3⟩ := s.f i a ha
    exact ⟨upd_ne (ne_of_none f3 h), f1⟩
  have fp : F p = none := by
    cases e : F p with
    | none => rfl
    | some o => have := S.fr p o e; rw [h] at this; cases this
  refine ⟨by simp [S.len], S'.ex, S'.fr, S'.frk, ⟨_, s'.push S.len (A := [p]) (OV.own.mpr ⟨p, vs, rfl, rfl, upd_same, r⟩) (fun a ha => ?_) (fun i a ha => ?_)⟩, S.bor_app _⟩
  · simp at ha; subst ha; exact ⟨S.ex.back h, fp⟩
  · simp at ha; subst ha; exact s.fresh h i
theorem RS.take {v : V} {x : MV} (S : RS K F Hk H bp (σ ++ [some v]) (ρ ++ [some x])) {i : Nat} (hi : i < ρ.length) (hb : ∀ q ∈ bp, q.1 ≠ i ∧ q.1 < ρ.length) : RS K F Hk H bp (σ.set i (some v)) (ρ.set i (some x)) := by
  obtain ⟨ow, s⟩ := S.ow
  have hl : σ.length = ρ.length := by have := S.len; simpa using this
  refine ⟨by simp [hl], S.ex, S.fr, S.frk, ⟨_, s.take hl hi⟩, fun q hq => ?_⟩
  have q1 := S.bor q hq
  rw [List.getElem?_append_left (by rw [hl]; exact (hb q hq).2)] at q1
  rw [List.getElem?_set_ne (Ne.symm (hb q hq).1)]; exact q1
theorem RS.drop {y : Option V} {x : Option MV} (S : RS K F Hk H bp (σ ++ [y]) (ρ ++ [x])) (hb : ∀ q ∈ bp, q.1 < ρ.length) : RS K F Hk H bp σ ρ := by
  obtain ⟨ow, s⟩ := S.ow
  have hl : σ.length = ρ.length := by have := S.len; simpa using this
  refine ⟨hl, S.ex, S.fr, S.frk, ⟨_, s.drop hl⟩, fun q hq => ?_⟩
  have q1 := S.bor q hq
  rw [List.getElem?_append_left (by rw [hl]; exact hb q hq)] at q1
  exact q1
theorem RS.freeze (S : RS K F Hk H bp σ ρ) {i : Nat} {xs : List MV} (h : ρ[i]? = some (some (.own xs))) :
    ∃ p vs, σ[i]? = some (some (.ref p)) ∧ Ex Hk (upd Hk p (.lst vs)) ∧ RV K (upd Hk p (.lst vs)) (.lst xs) (.ref p) ∧ RS K F (upd Hk p (.lst vs)) H bp σ (ρ.set i (some (.lst xs))) := by
  obtain ⟨ow, s⟩ := S.ow
  obtain ⟨v, ev, o⟩ := s.s i _ h
  obtain ⟨p, vs, e1, e2, e3, e4⟩ := OV.own.mp o
  have m : p ∈ ow i := by rw [e2]; simp
  obtain ⟨f1, f2, _⟩ := s.f i p m
  have ex : Ex Hk (upd Hk p (.lst vs)) := Ex.new f1
  have rv : RV K (upd Hk p (.lst vs)) (.lst xs) (.ref p) := RV.lst.mpr ⟨p, vs, rfl, upd_same, e4.mono ex⟩
  have li := lt_get h
  refine ⟨p, vs, by rw [ev, e1], ex, rv, by simp [S.len], S.ex.updL e3, S.fr, fun a u ha => ?_, ⟨put ow i [], ?_⟩, S.bor⟩
  · rw [upd_ne (ne_of_none ha f2)]; exact S.frk a u ha
  · refine ⟨fun j y hj => ?_, fun j a hj => ?_, fun j hj => ?_, fun j k a hjk hj => ?_⟩
    · rcases set_get hj with ⟨rfl, e⟩ | ⟨ne, e⟩
      · cases e
        exact ⟨v, ev, by rw [put_same, e1]; exact rv.ov⟩
      · obtain ⟨u, u1, u2⟩ := s.s j y e
        exact ⟨u, u1, by rw [put_ne ne]; exact u2.move ex fun _ _ _ z => z⟩
    · by_cases e : j = i
      · rw [e, put_same] at hj; cases hj
      · rw [put_ne e] at hj
        obtain ⟨g1, g2⟩ := s.f j a hj
        refine ⟨?_, g2⟩
        rw [upd_ne (fun z => s.d j i a e hj (by rw [z]; exact m))]; exact g1
    · by_cases e : j = i
      · rw [e, put_same] at hj; exact (hj rfl).elim
      · rw [put_ne e] at hj; rw [List.length_set]; exact s.w j hj
    · by_cases e : j = i
      · rw [e, put_same] at hj; cases hj
      · rw [put_ne e] at hj
        by_cases e2 : k = i
        · rw [e2, put_same]; simp
        · rw [put_ne e2]; exact s.d j k a hjk hj
theorem RS.change (S : RS K F Hk H bp σ ρ) {i : Nat} {xs ys : List MV} (h : ρ[i]? = some (some (.own xs))) :
    ∃ p vs, σ[i]? = some (some (.ref p)) ∧ H p = some (.lst vs) ∧ RVs K Hk xs vs ∧ ∀ ws, RVs K Hk ys ws → RS K F Hk (upd H p (.lst ws)) bp σ (ρ.set i (some (.own ys))) := by
  obtain ⟨ow, s⟩ := S.ow
  obtain ⟨v, ev, o⟩ := s.s i _ h
  obtain ⟨p, vs, e1, e2, e3, e4⟩ := OV.own.mp o
  have m : p ∈ ow i := by rw [e2]; simp
  obtain ⟨f1, f2, _⟩ := s.f i p m
  refine ⟨p, vs, by rw [ev, e1], e3, e4, fun ws r => ⟨by simp [S.len], S.ex.mut f1, S.fr.mut f2, S.frk, ⟨ow, ?_⟩, S.bor⟩⟩
  refine ⟨fun j y hj => ?_, fun j a hj => ?_, fun j hj => by rw [List.length_set]; exact s.w j hj, s.d⟩
  · rcases set_get hj with ⟨rfl, e⟩ | ⟨ne, e⟩
    · cases e
      exact ⟨v, ev, OV.own.mpr ⟨p, ws, e1, e2, upd_same, r⟩⟩
    · obtain ⟨u, u1, u2⟩ := s.s j y e
      exact ⟨u, u1, u2.move (Ex.refl _) fun a ha o ho => by rw [upd_ne (fun z => s.d j i a ne ha (by rw [z]; exact m))]; exact ho⟩
  · obtain ⟨g1, g2, o, g3⟩ := s.f j a hj
    by_cases e : a = p
    · subst e; exact ⟨g1, g2, _, upd_same⟩
    · exact ⟨g1, g2, o, by rw [upd_ne e]; exact g3⟩
end
end Tm
set_option Elab.async false
set_option linter.all false
set_option maxRecDepth 100000
set_option maxHeartbeats 2000000
namespace Tm
open PySem L2
open Evl (Ex ex_rd ex_l ex_t)
structure Ct where
  K : PySem.W.Frag
  mg : Str → Option Value
  W : WX
  bs : List Nat
  J : Hp → List (Nat × Addr) → Prop
  Jm : ∀ F F1 bp, Ex F F1 → J F bp → J F1 bp
def XFs (K : PySem.W.Frag) (H : Hp) : List (Str × MV) → List (Str × V) → Prop
  | [], vs => vs = []
  | (n, x) :: xs, vs => ∃ v r, vs = (n, v) :: r ∧ RV K H x v ∧ XFs K H xs r
def ExR (K : PySem.W.Frag) (mg : Str → Option Value) (H : Hp) (e : MX) (cls : Value) (d : Option Addr) : Prop :=
  ∃ C, mg e.cls = some (.ref C) ∧ cls = .ref C ∧ ((e.fs = [] ∧ d = none) ∨ ∃ dx vfs, d = some dx ∧ H dx = some (.xd vfs) ∧ XFs K H e.fs vfs)
theorem XFs.mono {K : PySem.W.Frag} {H H' : Hp} (e : Ex H H') : ∀ {xs : List (Str × MV)} {vs : List (Str × V)}, XFs K H xs vs → XFs K H' xs vs
  | [], _, h => h
  | (n, x) :: xs, vs, h => by
    obtain ⟨v, r, e1, e2, e3⟩ := h
    exact ⟨v, r, e1, RV.mono e _ _ e2, XFs.mono e e3⟩
theorem ExR.mono {K : PySem.W.Frag} {mg : Str → Option Value} {H H' : Hp} {e : MX} {cls : Value} {d : Option Addr} (x : Ex H H') (h : ExR K mg H e cls d) : ExR K mg H' e cls d := by
  obtain ⟨C, h1, h2, h3⟩ := h
  refine ⟨C, h1, h2, ?_⟩
  rcases h3 with h3 | ⟨dx, vfs, a, b, c⟩
  · exact .inl h3
  · exact .inr ⟨dx, vfs, a, x _ _ b, c.mono x⟩
abbrev ME := Env → Res (MV × Env)
abbrev MT := Env → Res (Bool × Env)
abbrev MA := Env → Res (List MV × Env)
abbrev MS := Env → Res (Fl × Env)
def Wish (c : Ct) (F Hk : Hp) (bp : List (Nat × Addr)) (σ : St) (e : MX) (ρ : Env) : Prop :=
  ∀ Hk' H' cls d, Ex Hk Hk' → RS c.K F Hk' H' bp σ ρ → ExR c.K c.mg Hk' e cls d → c.W cls d σ H'
def okE (c : Ct) (F Hk : Hp) (bp : List (Nat × Addr)) (σ : St) (Q : VK) : Res (MV × Env) → Prop
  | .ok (x, ρ') => ∀ Hk' H' v, Ex Hk Hk' → RS c.K F Hk' H' bp σ ρ' → RV c.K Hk' x v → Q v H'
  | .exc e ρ' => Wish c F Hk bp σ e ρ'
  | .stuck => False
def okO (c : Ct) (F Hk : Hp) (bp : List (Nat × Addr)) (σ : St) (Q : VK) : Res (MV × Env) → Prop
  | .ok (x, ρ') => ∀ Hk' H' v, Ex Hk Hk' → RS c.K F Hk' H' bp (σ ++ [some v]) (ρ' ++ [some x]) → Q v H'
  | .exc e ρ' => Wish c F Hk bp σ e ρ'
  | .stuck => False
def okT (c : Ct) (F Hk : Hp) (bp : List (Nat × Addr)) (σ : St) (Q : Bool → Hp → Prop) : Res (Bool × Env) → Prop
  | .ok (x, ρ') => ∀ Hk' H', Ex Hk Hk' → RS c.K F Hk' H' bp σ ρ' → Q x H'
  | .exc e ρ' => Wish c F Hk bp σ e ρ'
  | .stuck => False
def okA (c : Ct) (F Hk : Hp) (bp : List (Nat × Addr)) (σ : St) (Q : List V → Hp → Prop) : Res (List MV × Env) → Prop
  | .ok (xs, ρ') => ∀ Hk' H' vs, Ex Hk Hk' → RS c.K F Hk' H' bp σ ρ' → RVs c.K Hk' xs vs → Q vs H'
  | .exc e ρ' => Wish c F Hk bp σ e ρ'
  | .stuck => False
def okS (c : Ct) (F Hk : Hp) (bp : List (Nat × Addr)) (D : Ends) : Res (Fl × Env) → Prop
  | .ok (.nx, ρ') => ∀ Hk' H' σ', Ex Hk Hk' → RS c.K F Hk' H' bp σ' ρ' → D.nx σ' H'
  | .ok (.br, ρ') => ∀ Hk' H' σ', Ex Hk Hk' → RS c.K F Hk' H' bp σ' ρ' → D.bk σ' H'
  | .ok (.ct, ρ') => ∀ Hk' H' σ', Ex Hk Hk' → RS c.K F Hk' H' bp σ' ρ' → D.ct σ' H'
  | .ok (.rt x, ρ') => ∀ Hk' H' σ' v, Ex Hk Hk' → (∀ q ∈ bp, q.1 < σ'.length) → RS c.K F Hk' H' bp (σ' ++ [some v]) (ρ' ++ [some x]) → D.rt v H'
  | .exc e ρ' => ∀ Hk' H' σ' cls d, Ex Hk Hk' → RS c.K F Hk' H' bp σ' ρ' → ExR c.K c.mg Hk' e cls d → c.W cls d σ' H'
  | .stuck => False
def At (c : Ct) (F Hk H : Hp) (bp : List (Nat × Addr)) (σ : St) (ρ : Env) : Prop := RS c.K F Hk H bp σ ρ ∧ bp.map (·.1) = c.bs ∧ c.J F bp
def rdE (c : Ct) (m : ME) : TE := fun σ H Q => ∃ F Hk bp ρ, At c F Hk H bp σ ρ ∧ okE c F Hk bp σ Q (m ρ)
def rdO (c : Ct) (m : ME) : TE := fun σ H Q => ∃ F Hk bp ρ, At c F Hk H bp σ ρ ∧ okO c F Hk bp σ Q (m ρ)
def rdT (c : Ct) (m : MT) : TT := fun σ H Q => ∃ F Hk bp ρ, At c F Hk H bp σ ρ ∧ okT c F Hk bp σ Q (m ρ)
def rdA (c : Ct) (m : MA) : TA := fun σ H Q => ∃ F Hk bp ρ, At c F Hk H bp σ ρ ∧ okA c F Hk bp σ Q (m ρ)
def rdS (c : Ct) (m : MS) : TS := fun D σ H => ∃ F Hk bp ρ, At c F Hk H bp σ ρ ∧ okS c F Hk bp D (m ρ)
section
variable {c : Ct} {F Hk Hk' H H' : Hp} {bp : List (Nat × Addr)} {σ : St} {ρ : Env}
theorem Wish.mono {e : MX} (x : Ex Hk Hk') (h : Wish c F Hk bp σ e ρ) : Wish c F Hk' bp σ e ρ := fun Hk2 H2 cls d x2 => h Hk2 H2 cls d (x.trans x2)
theorem okE.mono {Q : VK} {r : Res (MV × Env)} (x : Ex Hk Hk') (h : okE c F Hk bp σ Q r) : okE c F Hk' bp σ Q r := by
  cases r with
  | ok a => exact fun Hk2 H2 v x2 => h Hk2 H2 v (x.trans x2)
  | exc e ρ => exact Wish.mono x h
  | stuck => exact h
theorem okO.mono {Q : VK} {r : Res (MV × Env)} (x : Ex Hk Hk') (h : okO c F Hk bp σ Q r) : okO c F Hk' bp σ Q r := by
  cases r with
  | ok a => exact fun Hk2 H2 v x2 => h Hk2 H2 v (x.trans x2)
  | exc e ρ => exact Wish.mono x h
  | stuck => exact h
theorem okT.mono {Q : Bool → Hp → Prop} {r : Res (Bool × Env)} (x : Ex Hk Hk') (h : okT c F Hk bp σ Q r) : okT c F Hk' bp σ Q r := by
  cases r with
  | ok a => exact fun Hk2 H2 x2 => h Hk2 H2 (x.trans x2)
  | exc e ρ => exact Wish.mono x h
  | stuck => exact h
theorem okA.mono {Q : List V → Hp → Prop} {r : Res (List MV × Env)} (x : Ex Hk Hk') (h : okA c F Hk bp σ Q r) : okA c F Hk' bp σ Q r := by
  cases r with
  | ok a => exact fun Hk2 H2 v x2 => h Hk2 H2 v (x.trans x2)
  | exc e ρ => exact Wish.mono x h
  | stuck => exact h
theorem okS.mono {D : Ends} {r : Res (Fl × Env)} (x : Ex Hk Hk') (h : okS c F Hk bp D r) : okS c F Hk' bp D r := by
  cases r with
  | ok a =>
    obtain ⟨f, ρ'⟩ := a
    cases f with
    | nx => exact fun Hk2 H2 σ' x2 => h Hk2 H2 σ' (x.trans x2)
    | br => exact fun Hk2 H2 σ' x2 => h Hk2 H2 σ' (x.trans x2)
    | ct => exact fun Hk2 H2 σ' x2 => h Hk2 H2 σ' (x.trans x2)
    | rt y => exact fun Hk2 H2 σ' v x2 => h Hk2 H2 σ' v (x.trans x2)
  | exc e ρ' => exact fun Hk2 H2 σ' cls d x2 => h Hk2 H2 σ' cls d (x.trans x2)
  | stuck => exact h
def Res.bind {α β : Type} (r : Res (α × Env)) (f : α → Env → Res (β × Env)) : Res (β × Env) :=
  match r with
  | .ok (x, ρ) => f x ρ
  | .exc e ρ => .exc e ρ
  | .stuck => .stuck
end
theorem PEw {X : Cx} {e : Expr} {t t' : TE} (h : PE X e t) (w : ∀ σ H Q, t' σ H Q → t σ H Q) : PE X e t' := ⟨fun pins s σ H Q I q => h.run pins s σ H Q I (w σ H Q q)⟩
theorem PTw {X : Cx} {e : Expr} {t t' : TT} (h : PT X e t) (w : ∀ σ H Q, t' σ H Q → t σ H Q) : PT X e t' := ⟨fun pins s σ H Q I q => h.run pins s σ H Q I (w σ H Q q)⟩
theorem PWw {X : Cx} {e : Expr} {t t' : TT} (h : PW X e t) (w : ∀ σ H Q, t' σ H Q → t σ H Q) : PW X e t' := ⟨fun wh pins s σ H Q I q => h.run wh pins s σ H Q I (w σ H Q q)⟩
theorem PAw {X : Cx} {e : List Expr} {t t' : TA} (h : PA X e t) (w : ∀ σ H Q, t' σ H Q → t σ H Q) : PA X e t' := ⟨fun pos pins s σ H Q I q => h.run pos pins s σ H Q I (w σ H Q q)⟩
theorem PSw {X : Cx} {e : Stmt} {t t' : TS} (h : PS X e t) (w : ∀ D σ H, t' D σ H → t D σ H) : PS X e t' := ⟨fun pins s σ H D I q => h.run pins s σ H D I (w D σ H q)⟩
theorem PSsw {X : Cx} {e : List Stmt} {t t' : TS} (h : PSs X e t) (w : ∀ D σ H, t' D σ H → t D σ H) : PSs X e t' := ⟨fun pins s σ H D I q => h.run pins s σ H D I (w D σ H q)⟩
section
variable {X : Cx} {c : Ct}
def mVar (i : Nat) : ME := fun ρ => match ρ[i]? with
  | some (some (.own xs)) => .ok (.lst xs, ρ.set i (some (.lst xs)))
  | some (some (.obj _ _)) => .stuck
  | some (some (.dow _ _)) => .stuck
  | some (some (.dot _ _)) => .stuck
  | some (some x) => .ok (x, ρ)
  | _ => .stuck
def mC (x : MV) : ME := fun ρ => .ok (x, ρ)
theorem rd_var {i : Nat} {σ : St} {H : Hp} {Q : VK} (h : rdE c (mVar i) σ H Q) : tVar i σ H Q := by
  obtain ⟨F, Hk, bp, ρ, ⟨S, _⟩, h⟩ := h
  have pl : ∀ x : MV, x.per = true → ρ[i]? = some (some x) → (∀ Hk' H' v, Ex Hk Hk' → RS c.K F Hk' H' bp σ ρ → RV c.K Hk' x v → Q v H') → tVar i σ H Q := fun x px e q => by
    obtain ⟨v, ev, r⟩ := S.get e px
    exact ⟨v, ev, q Hk H v (Ex.refl _) S r⟩
  unfold mVar at h
  split at h
  · rename_i xs e
    obtain ⟨p, vs, e1, ex, r, S'⟩ := S.freeze e
    exact ⟨_, e1, h _ _ _ ex S' r⟩
  · exact h.elim
  · exact h.elim
  · exact h.elim
  · rename_i x n1 n2 n3 n4 e
    refine pl x ?_ e h
    cases x <;> first | rfl | (exfalso; first | exact n1 _ rfl | exact n2 _ _ rfl | exact n3 _ _ rfl | exact n4 _ _ rfl)
  · exact h.elim
theorem me_var {i : Nat} {x : Str} {pos : Pos} (hN : X.N[i]? = some x) (hv : Vis X.env.scope x) (hd : (x == ("__debug__" : Str)) = false := by decide) (hcd : (x == ("__classdict__" : Str)) = false := by decide) : PE X (.Name x pos) (rdE c (mVar i)) :=
  PEw (pe_var hN hv hd hcd) fun _ _ _ h => rd_var h
theorem rd_c {x : MV} {v : V} (r : ∀ H, RV c.K H x v) {σ : St} {H : Hp} {Q : VK} (h : rdE c (mC x) σ H Q) : tC v σ H Q := by
  obtain ⟨F, Hk, bp, ρ, ⟨S, _⟩, h⟩ := h
  exact h Hk H v (Ex.refl _) S (r _)
theorem me_int {i j pos} : PE X (.Constant (.int i) j pos) (rdE c (mC (.int i))) := PEw pe_int fun _ _ _ h => rd_c (fun _ => RV.int.mpr rfl) h
theorem me_bl {b j pos} : PE X (.Constant (.bool b) j pos) (rdE c (mC (.bl b))) := PEw pe_bl fun _ _ _ h => rd_c (fun _ => RV.bl.mpr rfl) h
theorem me_non {j pos} : PE X (.Constant .none j pos) (rdE c (mC .non)) := PEw pe_non fun _ _ _ h => rd_c (fun _ => RV.non.mpr rfl) h
theorem me_str {x j pos} : PE X (.Constant (.str x) j pos) (rdE c (mC (.str x))) := PEw pe_str fun _ _ _ h => rd_c (fun _ => RV.str.mpr rfl) h
def mOp (f : MV → MV → Option MV) (a b : ME) : ME := fun ρ => (a ρ).bind fun x ρ1 => (b ρ1).bind fun y ρ2 => match f x y with | some z => .ok (z, ρ2) | none => .stuck
def OpS (K : PySem.W.Frag) (f : MV → MV → Option MV) (r : R2) : Prop := ∀ (x y z : MV) (v w : V) (Hk H : Hp) (Q : VK), f x y = some z → Ex Hk H → RV K Hk x v → RV K Hk y w → (∀ u, RV K Hk z u → Q u H) →
  (∀ p o, H p = none → RV K (upd Hk p o) z (.ref p) → Q (.ref p) (upd H p o)) → r v w H Q
theorem rd_op {f : MV → MV → Option MV} {r : R2} (o : OpS c.K f r) {a b : ME} {σ : St} {H : Hp} {Q : VK} (h : rdE c (mOp f a b) σ H Q) : tOp r (rdE c a) (rdE c b) σ H Q := by
  obtain ⟨F, Hk, bp, ρ, ⟨S, eb⟩, h⟩ := h
  refine ⟨F, Hk, bp, ρ, ⟨S, eb⟩, ?_⟩
  unfold mOp at h
  cases ea : a ρ with
  | stuck => rw [ea] at h; exact h.elim
  | exc e ρ' => rw [ea] at h; exact h
  | ok p =>
    obtain ⟨x, ρ1⟩ := p
    rw [ea] at h
    intro Hk1 H1 v x1 S1 r1
    refine ⟨F, Hk1, bp, ρ1, ⟨S1, eb⟩, ?_⟩
    have h : okE c F Hk bp σ Q ((b ρ1).bind fun y ρ2 => match f x y with | some z => .ok (z, ρ2) | none => .stuck) := h
    cases e2 : b ρ1 with
    | stuck => rw [e2] at h; exact h.elim
    | exc e ρ' => rw [e2] at h; exact Wish.mono x1 h
    | ok p =>
      obtain ⟨y, ρ2⟩ := p
      rw [e2] at h
      intro Hk2 H2 w x2 S2 r2
      have h : okE c F Hk bp σ Q (match f x y with | some z => .ok (z, ρ2) | none => .stuck) := h
      cases ez : f x y with
      | none => rw [ez] at h; exact h.elim
      | some z =>
        rw [ez] at h
        refine o x y z v w Hk2 H2 Q ez S2.ex (RV.mono x2 _ _ r1) r2 (fun u ru => h Hk2 H2 u (x1.trans x2) S2 ru) fun p ob hp ru => ?_
        exact h _ _ _ ((x1.trans x2).trans (Ex.new (S2.ex.back hp))) (S2.new hp) ru
theorem me_op {op : Operator} {f : MV → MV → Option MV} {r : R2} {a b : Expr} {ma mb : ME} {pos : Pos} (ho : OpR X (binaryOp op) r) (o : OpS c.K f r) (ha : PE X a (rdE c ma)) (hb : PE X b (rdE c mb)) : PE X (.BinOp a op b pos) (rdE c (mOp f ma mb)) :=
  PEw (pe_op ho ha hb) fun _ _ _ h => rd_op o h
theorem me_cmp {op : CmpOp} {f : MV → MV → Option MV} {r : R2} {a b : Expr} {ma mb : ME} {pos : Pos} (ho : OpR X (compareOp op) r) (o : OpS c.K f r) (ha : PE X a (rdE c ma)) (hb : PE X b (rdE c mb)) (hm : behindInMarks op b = false) : PE X (.Compare a [op] [b] pos) (rdE c (mOp f ma mb)) :=
  PEw (pe_cmpR ho ha hb hm) fun _ _ _ h => rd_op o h
end
end Tm
set_option Elab.async false
set_option linter.all false
set_option maxRecDepth 100000
set_option maxHeartbeats 2000000
namespace Tm
open PySem L2
open Evl (Ex ex_rd ex_l ex_t)
def szOk (n : Nat) : Bool := decide (n ≤ sizeLine)
def fAdd : MV → MV → Option MV
  | .int i, .int j => some (.int (i + j))
  | .int i, .bl b => some (.int (i + PyProof.Rows.b2i b))
  | .str a, .str b => if szOk (a.length + b.length) then some (.str (a ++ b)) else none
  | .lst a, .lst b => if szOk (a.length + b.length) then some (.lst (a ++ b)) else none
  | .tup a, .tup b => if szOk (a.length + b.length) then some (.tup (a ++ b)) else none
  | _, _ => none
def fSub : MV → MV → Option MV
  | .int i, .int j => some (.int (i - j))
  | _, _ => none
def mulOk (i j : Int) : Bool := (decide (-(2 ^ 64) < i) && decide (i < 2 ^ 64)) || (decide (-(2 ^ 64) < j) && decide (j < 2 ^ 64)) || decide (i.natAbs.log2 + j.natAbs.log2 < 1000000)
instance (i j : Int) : Decidable (CMulW i j) := inferInstanceAs (Decidable (i.natAbs.log2 + j.natAbs.log2 < 1000000))
def repS (a : Str) (k : Int) : Str := ⟨(List.replicate k.toNat a.cps.toList).flatten.toArray⟩
def fMul : MV → MV → Option MV
  | .int i, .int j => if mulOk i j then some (.int (i * j)) else none
  | .tup a, .int k => if decide (-(2 ^ 63) ≤ k) && decide (k < 2 ^ 63) && (decide (k = 1) || a.isEmpty || (decide (2 ≤ k) && decide (k ≤ 1000) && decide (a.length ≤ 1000))) then some (.tup (List.replicate k.toNat a).flatten) else none
  | .str a, .int k => if decide (-(2 ^ 63) ≤ k) && decide (k < 2 ^ 63) && szOk (a.length * k.toNat) then some (.str (repS a k)) else none
  | .lst a, .int k => if decide (-(2 ^ 63) ≤ k) && decide (k < 2 ^ 63) && szOk (a.length * k.toNat) then some (.lst (List.replicate k.toNat a).flatten) else none
  | _, _ => none
def divOk (j : Int) : Bool := (decide (j ≠ 0) && decide (j.natAbs < 1073741824)) || (decide (0 < j) && decide (j.natAbs.log2 < 9000))
def fDiv : MV → MV → Option MV
  | .int i, .int j => if divOk j then some (.int (i.fdiv j)) else none
  | _, _ => none
def fMod : MV → MV → Option MV
  | .int i, .int j => if decide (j ≠ 0) then some (.int (i.fmod j)) else none
  | _, _ => none
def fPow : MV → MV → Option MV
  | .int i, .int j => if decide (0 ≤ j) && decide (j ≤ 1000000) && decide (i.natAbs < 2 ^ 64) then some (.int (i ^ j.toNat)) else none
  | _, _ => none
def fLt : MV → MV → Option MV
  | .int i, .int j => some (.bl (decide (i < j)))
  | _, _ => none
def fLe : MV → MV → Option MV
  | .int i, .int j => some (.bl (decide (i ≤ j)))
  | _, _ => none
def fGt : MV → MV → Option MV
  | .int i, .int j => some (.bl (decide (j < i)))
  | _, _ => none
def fGe : MV → MV → Option MV
  | .int i, .int j => some (.bl (decide (j ≤ i)))
  | _, _ => none
def MV.isN : MV → Bool
  | .non => true
  | .raw w => decide (w = .non)
  | _ => false
def fIsN : MV → MV → Option MV
  | x, .non => some (.bl x.isN)
  | _, _ => none
def scalM : MV → MV → Bool
  | .non, .non => true | .non, .int _ => true | .int _, .non => true | .non, .bl _ => true | .bl _, .non => true | .non, .str _ => true | .str _, .non => true
  | .int _, .int _ => true | .bl _, .bl _ => true | .str _, .str _ => true
  | .int _, .str _ => true | .str _, .int _ => true | .bl _, .str _ => true | .str _, .bl _ => true
  | _, _ => false
def sameM : MV → MV → Bool
  | .non, .non => true
  | .int i, .int j => decide (i = j)
  | .bl i, .bl j => decide (i = j)
  | .str i, .str j => decide (i = j)
  | _, _ => false
mutual
def toD : MV → Option PyData
  | .non => some .none
  | .bl b => some (.bool b)
  | .int i => some (.int i)
  | .str x => some (.str x)
  | .tup xs => (toDs xs).map .tuple
  | .lst xs => (toDs xs).map .list
  | _ => none
def toDs : List MV → Option (List PyData)
  | [] => some []
  | x :: xs => match toD x, toDs xs with
    | some d, some ds => some (d :: ds)
    | _, _ => none
end
def eqM (x y : MV) : Option Bool :=
  if scalM x y then some (sameM x y) else
  match toD x, toD y with
  | some d, some e => if SeqAt.shaped d && SeqAt.shaped e then some (PyData.eqv d e) else none
  | _, _ => none
def fEq (x y : MV) : Option MV := (eqM x y).map .bl
def fNe (x y : MV) : Option MV := (eqM x y).map fun b => .bl (!b)
section
variable {K : PySem.W.Frag}
def rAddM (K : PySem.W.Frag) : R2 := fun x y H Q => (rI0 fun i j => .int (i + j)) x y H Q ∨ (∃ i k, x = .int i ∧ y = .bl k ∧ Q (.int (i + PyProof.Rows.b2i k)) H) ∨ (∃ i j, x = .str i ∧ y = .str j ∧ i.length + j.length ≤ sizeLine ∧ Q (.str (i ++ j)) H) ∨ rCat x y H Q ∨ rCatA K x y H Q
theorem op_addM {X : Cx} : OpR X (binaryOp .Add) (rAddM X.K) := OpR.or op_add (OpR.or op_add_ib (OpR.or op_add_str (OpR.or op_cat op_catA)))
theorem szOk_iff {n : Nat} : szOk n = true ↔ n ≤ sizeLine := by unfold szOk; simp
theorem os_add : OpS K fAdd (rAddM K) := by
  intro x y z v w Hk H Q e ex r1 r2 q qn
  unfold fAdd at e
  split at e
  · cases e
    exact .inl ⟨_, _, RV.int.mp r1, RV.int.mp r2, q _ (RV.int.mpr rfl)⟩
  · cases e
    exact .inr (.inl ⟨_, _, RV.int.mp r1, RV.bl.mp r2, q _ (RV.int.mpr rfl)⟩)
  · split at e
    · rename_i a b h
      cases e
      exact .inr (.inr (.inl ⟨_, _, RV.str.mp r1, RV.str.mp r2, szOk_iff.mp h, q _ (RV.str.mpr rfl)⟩))
    · cases e
  · split at e
    · rename_i a b h
      cases e
      obtain ⟨p1, vs, rfl, h1, s1⟩ := RV.lst.mp r1
      obtain ⟨p2, ws, rfl, h2, s2⟩ := RV.lst.mp r2
      refine .inr (.inr (.inr (.inl ⟨p1, p2, vs, ws, rfl, rfl, ex _ _ h1, ex _ _ h2, ?_, fun p hp => qn p _ hp ?_⟩)))
      · rw [s1.length, s2.length]; exact szOk_iff.mp h
      · have z := Ex.new (o := .lst (vs ++ ws)) (ex.back hp)
        exact RV.lst.mpr ⟨p, _, rfl, upd_same, (s1.append s2).mono z⟩
    · cases e
  · split at e
    · rename_i a b h
      cases e
      obtain ⟨p1, vs, rfl, h1, s1⟩ := RV.tup.mp r1
      obtain ⟨p2, ws, rfl, h2, s2⟩ := RV.tup.mp r2
      refine .inr (.inr (.inr (.inr ⟨p1, p2, vs, ws, rfl, rfl, ex_t ex h1, ex_t ex h2, ?_, fun e0 => ?_, fun e0 e1 => ?_, fun e0 e1 p hp => qn p _ hp ?_⟩)))
      · rw [s1.length, s2.length]; exact szOk_iff.mp h
      · have z := s1.append s2
        rw [e0, List.nil_append] at z
        exact q _ (RV.tup.mpr ⟨p2, ws, rfl, h2, z⟩)
      · have z := s1.append s2
        rw [e1, List.append_nil] at z
        exact q _ (RV.tup.mpr ⟨p1, vs, rfl, h1, z⟩)
      · have z := Ex.new (o := .tup (vs ++ ws)) (ex.back hp)
        exact RV.tup.mpr ⟨p, _, rfl, SqT.of upd_same, (s1.append s2).mono z⟩
    · cases e
  · cases e
theorem os_sub : OpS K fSub (rI0 fun i j => .int (i - j)) := by
  intro x y z v w Hk H Q e ex r1 r2 q qn
  unfold fSub at e
  split at e
  · cases e; exact ⟨_, _, RV.int.mp r1, RV.int.mp r2, q _ (RV.int.mpr rfl)⟩
  · cases e
open PySem.Spec PyProof.Rows in
theorem tuple_mulSame (l : Addr) (items : Array Value) (n : Nat) (dd : Option Addr) (sl : Array (Option Value)) (x : Int) (u : Tok) (c0 : (decide (x < -(2 ^ 63)) || decide (x ≥ 2 ^ 63)) = false) (c1 : (items.isEmpty || x == 1) = true) :
    Meets (Builtin.«tuple.__mul__» ⟨[.ref l, .int x u], []⟩) (fun _ R s => s.heap.get? l = some { cls := .type "tuple", dict := dd, data := .seq items n, slots := sl } ∧ R (.ok (.ret (Value.ref l))) s) :=
  .of_wp fun prog w A R s h => by
    obtain ⟨hp, g, d, tk, os⟩ := s
    obtain ⟨hl, h⟩ := h
    have f1 := AutoSeq1.idx_int
    wp_walk using wpAny_loadPart' hl
    repeat (first
      | (refine wpAny_ite_false (decide_eq_false (by rw [c0]; exact Bool.false_ne_true)) ?_; wp_walk using wpAny_loadPart' hl)
      | (refine wpAny_ite_true (decide_eq_true c1) ?_; wp_walk using wpAny_loadPart' hl))
    exact ⟨_, rfl, h⟩
def rRepTS (K : PySem.W.Frag) : R2 := fun x y H Q => ∃ l k xs, x = .ref l ∧ y = .int k ∧ SqT K H l xs ∧ (k = 1 ∨ xs = []) ∧ -(2 ^ 63) ≤ k ∧ k < 2 ^ 63 ∧ Q (.ref l) H
open PySem.Spec PyProof.Rows in
theorem op_repTS {X : Cx} : OpR X (binaryOp .Mult) (rRepTS X.K) := by
  intro pins s σ H x y v u Q I rx ry h
  obtain ⟨l, k, xs, rfl, rfl, hT, hs, h1, h2, q⟩ := h
  cases rx
  obtain ⟨t, rfl⟩ := ry
  obtain ⟨its, r, ⟨⟨cls, dd, data, sl⟩, ho, hc, n, hd⟩, _⟩ := I.tuple hT
  simp only at hc hd
  subst hc hd
  have hle : its.length = xs.length := r.length.symm
  have c0 : (decide (k < -(2 ^ 63)) || decide (k ≥ 2 ^ 63)) = false := by
    rw [decide_eq_false (by omega), decide_eq_false (by omega)] <;> rfl
  have c1 : (its.toArray.isEmpty || k == 1) = true := by
    rw [Bool.or_eq_true]
    rcases hs with rfl | rfl
    · exact .inr rfl
    · have : its = [] := List.length_eq_zero_iff.mp hle
      subst this
      exact .inl rfl
  exact wpAny_binaryOp_repeat_ref (T := "tuple") (U := "int") (by decide) ⟨_, ho, rfl⟩ (fun s' => typeIs_int s' k t) noFill_tuple_mul F.fills_int_mul F.slot_int_rmul repeat_tuple F.slot_int_index.lookup
    (call_meets F.slot_int_rmul (typeIs_int s k t) F.entry_int_rmul (F.args_int_rmul_2 _ _) (int_rmul_tuple k t l its.toArray n dd sl)
      ⟨ho, rfl, ⟨_, ho, rfl⟩, call_meets F.slot_tuple_mul ⟨_, ho, rfl⟩ F.entry_tuple_mul (F.args_tuple_mul_2 _ _) (tuple_mulSame l its.toArray n dd sl k t c0 c1) ⟨ho, ⟨.ref l, H, I, rfl, q⟩⟩⟩)
def rRepS : R2 := fun x y H Q => ∃ a k, x = .str a ∧ y = .int k ∧ -(2 ^ 63) ≤ k ∧ k < 2 ^ 63 ∧ a.length * k.toNat ≤ sizeLine ∧ Q (.str (repS a k)) H
theorem rep_foldl (l : Array Nat) : ∀ (n : Nat) (acc : Array Nat), (List.replicate n l).foldl (· ++ ·) acc = (acc.toList ++ (List.replicate n l.toList).flatten).toArray
  | 0, acc => by simp
  | n + 1, acc => by
    rw [List.replicate_succ, List.foldl_cons, rep_foldl l n, List.replicate_succ, List.flatten_cons]
    simp
theorem op_repS {X : Cx} : OpR X (binaryOp .Mult) rRepS := by
  intro pins s σ H x y v u Q I rx ry h
  obtain ⟨a, k, rfl, rfl, h1, h2, hz, q⟩ := h
  obtain ⟨t, rfl⟩ := rx
  obtain ⟨t', rfl⟩ := ry
  have sz : sizeLine = 16777216 := rfl
  refine PySem.P.mul_str ?_ ?_ ?_ ?_
  · rw [decide_eq_false (by omega), decide_eq_false (by omega)]; rfl
  · intro h3 h4 h5
    have hk : 1 < k := by
      have : (k == 1) = false := by cases e : (k == 1) <;> simp [e] at h4 ⊢
      have := beq_eq_false_iff_ne.mp this
      omega
    have e1 : ((a.length : Int) * k) ≤ 16777216 := by
      rw [sz] at hz
      have : ((a.length * k.toNat : Nat) : Int) ≤ 16777216 := by omega
      rw [Int.natCast_mul, Int.toNat_of_nonneg (by omega)] at this
      exact this
    have e2 : (a.length : Int) ≤ (2 ^ 63 - 1) / k := by
      refine (Int.le_ediv_iff_mul_le (by omega)).mpr ?_
      omega
    omega
  · intro h3 h4
    unfold Builtin.Str.tooLong
    exact decide_eq_false (by omega)
  · split
    · rename_i h3
      refine ⟨by decide, .str (repS a k), H, I.tok _, ⟨s.toks, ?_⟩, q⟩
      have : k.toNat = 0 := by omega
      unfold repS
      rw [this]; rfl
    · split
      · rename_i h3 h4
        refine ⟨.str (repS a k), H, I, ⟨t, ?_⟩, q⟩
        have : repS a k = a := by
          unfold repS
          rw [Bool.or_eq_true] at h4
          rcases h4 with h4 | h4
          · have : k = 1 := by simpa using h4
            subst this
            show (⟨([a.cps.toList].flatten).toArray⟩ : Str) = a
            simp
          · have e0 : a.cps.toList = [] := by
              have : a.length = 0 := by simpa using h4
              exact List.length_eq_zero_iff.mp (by rw [Array.length_toList]; exact this)
            rw [e0]
            have : ∀ n : Nat, (List.replicate n ([] : List Nat)).flatten = [] := fun n => by simp
            rw [this]
            cases a with
            | mk cps =>
              simp only at e0
              rw [← e0]
        rw [this]
      · rename_i h3 h4
        have e1 : (⟨(List.replicate k.toNat a.cps).foldl (· ++ ·) #[]⟩ : Str) = repS a k := by
          unfold repS
          rw [rep_foldl]
          rfl
        rw [e1]
        refine ⟨?_, .str (repS a k), H, I.tok _, ⟨s.toks, rfl⟩, q⟩
        show (List.replicate k.toNat a.cps.toList).flatten.toArray.size ≤ sizeLine
        rw [List.size_toArray, PyProof.Rows.lm_len_rep_flat, Nat.mul_comm]
        exact hz
def rMulM (K : PySem.W.Frag) : R2 := fun x y H Q => (rI CMul fun i j => .int (i * j)) x y H Q ∨ (rI CMulW fun i j => .int (i * j)) x y H Q ∨ rRep x y H Q ∨ rRepS x y H Q ∨ rRepTS K x y H Q ∨ rRepT K x y H Q
theorem op_mulM {X : Cx} : OpR X (binaryOp .Mult) (rMulM X.K) := OpR.or op_mul (OpR.or op_mulW (OpR.or op_rep (OpR.or op_repS (OpR.or op_repTS op_repT))))
theorem RVs.rep {H : Hp} {xs : List MV} {vs : List V} (h : RVs K H xs vs) : ∀ n : Nat, RVs K H (List.replicate n xs).flatten (List.replicate n vs).flatten
  | 0 => by simp [RVs]
  | n + 1 => by
    rw [List.replicate_succ, List.replicate_succ, List.flatten_cons, List.flatten_cons]
    exact h.append (RVs.rep h n)
theorem os_mul : OpS K fMul (rMulM K) := by
  intro x y z v w Hk H Q e ex r1 r2 q qn
  unfold fMul at e
  split at e
  · rename_i i j
    split at e
    · rename_i h
      cases e
      unfold mulOk at h
      rw [Bool.or_eq_true] at h
      rcases h with h | h
      · refine .inl ⟨i, j, RV.int.mp r1, RV.int.mp r2, ?_, q _ (RV.int.mpr rfl)⟩
        simp only [Bool.or_eq_true, Bool.and_eq_true, decide_eq_true_eq] at h
        exact h
      · exact .inr (.inl ⟨i, j, RV.int.mp r1, RV.int.mp r2, of_decide_eq_true h, q _ (RV.int.mpr rfl)⟩)
    · cases e
  · rename_i a k
    split at e
    · rename_i h
      cases e
      simp only [Bool.and_eq_true, Bool.or_eq_true, decide_eq_true_eq] at h
      obtain ⟨p1, vs, rfl, h1, s1⟩ := RV.tup.mp r1
      have hvl := s1.length
      by_cases hk : k = 1 ∨ vs = []
      · refine .inr (.inr (.inr (.inr (.inl ⟨p1, k, vs, rfl, RV.int.mp r2, ex_t ex h1, hk, h.1.1, h.1.2, q _ ?_⟩))))
        have er : (List.replicate k.toNat a).flatten = a := by
          rcases hk with rfl | rfl
          · simp
          · have : a = [] := List.length_eq_zero_iff.mp (by simpa using hvl.symm)
            subst this; simp
        rw [er]
        exact RV.tup.mpr ⟨p1, vs, rfl, h1, s1⟩
      · have hk2 : 2 ≤ k ∧ k ≤ 1000 ∧ a.length ≤ 1000 := by
          rcases h.2 with (h2 | h2) | h2
          · exact absurd (.inl h2) hk
          · exact absurd (.inr (List.length_eq_zero_iff.mp (by rw [hvl]; simpa using h2))) hk
          · exact ⟨h2.1.1, h2.1.2, h2.2⟩
        refine .inr (.inr (.inr (.inr (.inr ⟨p1, k, vs, rfl, RV.int.mp r2, ex_t ex h1, fun e0 => hk (.inr e0), hk2.1, hk2.2.1, by rw [hvl]; exact hk2.2.2, fun p hp => qn p _ hp ?_⟩))))
        have z := Ex.new (o := .tup (List.replicate k.toNat vs).flatten) (ex.back hp)
        exact RV.tup.mpr ⟨p, _, rfl, SqT.of upd_same, (RVs.rep s1 _).mono z⟩
    · cases e
  · rename_i a k
    split at e
    · rename_i h
      cases e
      simp only [Bool.and_eq_true, decide_eq_true_eq] at h
      exact .inr (.inr (.inr (.inl ⟨a, k, RV.str.mp r1, RV.int.mp r2, h.1.1, h.1.2, szOk_iff.mp h.2, q _ (RV.str.mpr rfl)⟩)))
    · cases e
  · rename_i a k
    split at e
    · rename_i h
      cases e
      simp only [Bool.and_eq_true, decide_eq_true_eq] at h
      obtain ⟨p1, vs, rfl, h1, s1⟩ := RV.lst.mp r1
      refine .inr (.inr (.inl ⟨p1, k, vs, rfl, RV.int.mp r2, ex _ _ h1, h.1.1, h.1.2, ?_, fun p hp => qn p _ hp ?_⟩))
      · rw [s1.length]; exact szOk_iff.mp h.2
      · have z := Ex.new (o := .lst (List.replicate k.toNat vs).flatten) (ex.back hp)
        exact RV.lst.mpr ⟨p, _, rfl, upd_same, (RVs.rep s1 _).mono z⟩
    · cases e
  · cases e
def rDivM : R2 := fun x y H Q => (rI CDivN fun i j => .int (i.fdiv j)) x y H Q ∨ (rI CDivW fun i j => .int (i / j)) x y H Q
theorem op_divM {X : Cx} : OpR X (binaryOp .FloorDiv) rDivM := OpR.or op_fdivN op_fdivW
theorem os_div : OpS K fDiv rDivM := by
  intro x y z v w Hk H Q e ex r1 r2 q qn
  unfold fDiv at e
  split at e
  · rename_i i j
    split at e
    · rename_i h
      cases e
      unfold divOk at h
      rw [Bool.or_eq_true] at h
      rcases h with h | h
      · simp only [Bool.and_eq_true, decide_eq_true_eq] at h
        exact .inl ⟨i, j, RV.int.mp r1, RV.int.mp r2, h, q _ (RV.int.mpr rfl)⟩
      · simp only [Bool.and_eq_true, decide_eq_true_eq] at h
        refine .inr ⟨i, j, RV.int.mp r1, RV.int.mp r2, h, ?_⟩
        have := q _ (RV.int.mpr rfl)
        rw [Int.fdiv_eq_ediv_of_nonneg i (by omega)] at this
        exact this
    · cases e
  · cases e
theorem os_mod : OpS K fMod (rI (fun _ j => j ≠ 0) fun i j => .int (i.fmod j)) := by
  intro x y z v w Hk H Q e ex r1 r2 q qn
  unfold fMod at e
  split at e
  · split at e
    · rename_i h
      cases e
      exact ⟨_, _, RV.int.mp r1, RV.int.mp r2, of_decide_eq_true h, q _ (RV.int.mpr rfl)⟩
    · cases e
  · cases e
theorem os_pow : OpS K fPow (rI CPow fun i j => .int (i ^ j.toNat)) := by
  intro x y z v w Hk H Q e ex r1 r2 q qn
  unfold fPow at e
  split at e
  · split at e
    · rename_i h
      cases e
      simp only [Bool.and_eq_true, decide_eq_true_eq] at h
      exact ⟨_, _, RV.int.mp r1, RV.int.mp r2, ⟨h.1.1, h.1.2, h.2⟩, q _ (RV.int.mpr rfl)⟩
    · cases e
  · cases e
theorem os_lt : OpS K fLt (rI0 fun i j => .bl (decide (i < j))) := by
  intro x y z v w Hk H Q e ex r1 r2 q qn
  unfold fLt at e
  split at e
  · cases e; exact ⟨_, _, RV.int.mp r1, RV.int.mp r2, q _ (RV.bl.mpr rfl)⟩
  · cases e
theorem os_le : OpS K fLe (rI0 fun i j => .bl (decide (i ≤ j))) := by
  intro x y z v w Hk H Q e ex r1 r2 q qn
  unfold fLe at e
  split at e
  · cases e; exact ⟨_, _, RV.int.mp r1, RV.int.mp r2, q _ (RV.bl.mpr rfl)⟩
  · cases e
theorem os_gt : OpS K fGt (rI0 fun i j => .bl (decide (j < i))) := by
  intro x y z v w Hk H Q e ex r1 r2 q qn
  unfold fGt at e
  split at e
  · cases e; exact ⟨_, _, RV.int.mp r1, RV.int.mp r2, q _ (RV.bl.mpr rfl)⟩
  · cases e
theorem os_ge : OpS K fGe (rI0 fun i j => .bl (decide (j ≤ i))) := by
  intro x y z v w Hk H Q e ex r1 r2 q qn
  unfold fGe at e
  split at e
  · cases e; exact ⟨_, _, RV.int.mp r1, RV.int.mp r2, q _ (RV.bl.mpr rfl)⟩
  · cases e
theorem scal_of {H : Hp} {x y : MV} {v w : V} (h : scalM x y = true) (r1 : RV K H x v) (r2 : RV K H y w) : scal v w = true ∧ decide (v = w) = sameM x y := by
  unfold scalM at h
  split at h <;> first | (cases h; done) | skip
  all_goals
    first
      | (rw [RV.non.mp r1] ) | (rw [RV.int.mp r1]) | (rw [RV.bl.mp r1]) | (rw [RV.str.mp r1])
    first
      | (rw [RV.non.mp r2] ) | (rw [RV.int.mp r2]) | (rw [RV.bl.mp r2]) | (rw [RV.str.mp r2])
    refine ⟨rfl, ?_⟩
    simp [sameM]
mutual
theorem Dp.of {Hk H : Hp} (ex : Ex Hk H) : ∀ (x : MV) (v : V) (d : PyData), RV K Hk x v → toD x = some d → Dp K H v d
  | .non, v, d, r, e => by rw [RV.non.mp r]; unfold toD at e; cases e; exact .non
  | .bl b, v, d, r, e => by rw [RV.bl.mp r]; unfold toD at e; cases e; exact .bl b
  | .int b, v, d, r, e => by rw [RV.int.mp r]; unfold toD at e; cases e; exact .int b
  | .str b, v, d, r, e => by rw [RV.str.mp r]; unfold toD at e; cases e; exact .str b
  | .tup xs, v, d, r, e => by
    obtain ⟨a, vs, rfl, h, s⟩ := RV.tup.mp r
    unfold toD at e
    cases e2 : toDs xs with
    | none => rw [e2] at e; cases e
    | some ds =>
      rw [e2] at e; cases e
      exact .tup (ex_t ex h) (DpAll.of ex xs vs ds s e2)
  | .lst xs, v, d, r, e => by
    obtain ⟨a, vs, rfl, h, s⟩ := RV.lst.mp r
    unfold toD at e
    cases e2 : toDs xs with
    | none => rw [e2] at e; cases e
    | some ds =>
      rw [e2] at e; cases e
      exact .lst (SqL.of (ex _ _ h)) (DpAll.of ex xs vs ds s e2)
  | .own _, v, d, r, e => by unfold toD at e; cases e
  | .raw _, v, d, r, e => by unfold toD at e; cases e
  | .scr _, v, d, r, e => by unfold toD at e; cases e
  | .fnc _, v, d, r, e => by unfold toD at e; cases e
  | .obj _ _, v, d, r, e => by unfold toD at e; cases e
  | .dct _ _, v, d, r, e => by unfold toD at e; cases e
  | .dow _ _, v, d, r, e => by unfold toD at e; cases e
  | .dot _ _, v, d, r, e => by unfold toD at e; cases e
theorem DpAll.of {Hk H : Hp} (ex : Ex Hk H) : ∀ (xs : List MV) (vs : List V) (ds : List PyData), RVs K Hk xs vs → toDs xs = some ds → DpAll K H vs ds
  | [], vs, ds, r, e => by rw [RVs.nil.mp r]; unfold toDs at e; cases e; exact .nil
  | x :: xs, vs, ds, r, e => by
    obtain ⟨v, us, rfl, r1, r2⟩ := RVs.cons.mp r
    unfold toDs at e
    split at e
    · rename_i d ds' e1 e2
      cases e
      exact .cons (Dp.of ex x v d r1 e1) (DpAll.of ex xs us ds' r2 e2)
    · cases e
end
def rEqM (K : PySem.W.Frag) : R2 := fun x y H Q => rEq x y H Q ∨ rEqD K x y H Q
def rNeM (K : PySem.W.Frag) : R2 := fun x y H Q => rNe x y H Q ∨ rNeD K x y H Q
theorem op_eqM {X : Cx} (hu : X.A.units + 64 < cLine) : OpR X (compareOp .Eq) (rEqM X.K) := OpR.or op_eq (op_eqD hu)
theorem op_neM {X : Cx} (hu : X.A.units + 64 < cLine) : OpR X (compareOp .NotEq) (rNeM X.K) := OpR.or op_ne (op_neD hu)
theorem os_eq : OpS K fEq (rEqM K) := by
  intro x y z v w Hk H Q e ex r1 r2 q qn
  unfold fEq eqM at e
  split at e
  · rename_i h
    obtain ⟨s1, s2⟩ := scal_of h r1 r2
    cases e
    refine .inl ⟨s1, ?_⟩
    rw [s2]; exact q _ (RV.bl.mpr rfl)
  · split at e
    · rename_i d e' e1 e2
      split at e
      · rename_i h
        rw [Bool.and_eq_true] at h
        cases e
        exact .inr ⟨d, e', Dp.of ex _ _ _ r1 e1, Dp.of ex _ _ _ r2 e2, h.1, h.2, q _ (RV.bl.mpr rfl)⟩
      · cases e
    · cases e
theorem os_ne : OpS K fNe (rNeM K) := by
  intro x y z v w Hk H Q e ex r1 r2 q qn
  unfold fNe eqM at e
  split at e
  · rename_i h
    obtain ⟨s1, s2⟩ := scal_of h r1 r2
    cases e
    refine .inl ⟨s1, ?_⟩
    rw [s2]; exact q _ (RV.bl.mpr rfl)
  · split at e
    · rename_i d e' e1 e2
      split at e
      · rename_i h
        rw [Bool.and_eq_true] at h
        cases e
        exact .inr ⟨d, e', Dp.of ex _ _ _ r1 e1, Dp.of ex _ _ _ r2 e2, h.1, h.2, q _ (RV.bl.mpr rfl)⟩
      · cases e
    · cases e
def fIx : MV → MV → Option MV
  | .lst xs, .int i => atI xs i
  | .tup xs, .int i => atI xs i
  | .scr ns, .int i => (atI ns i).map .int
  | .str z, .int i => if szOk z.length then (atI z.cps.toList i).map fun c => .str ⟨#[c]⟩ else none
  | _, _ => none
theorem atI_rv {H : Hp} {xs : List MV} {vs : List V} (r : RVs K H xs vs) {i : Int} {x : MV} (e : atI xs i = some x) : ∃ v, atI vs i = some v ∧ RV K H x v := by
  unfold atI at e ⊢
  rw [r.length]
  cases h : ixN xs.length i with
  | none => rw [h] at e; cases e
  | some j =>
    rw [h] at e
    exact r.get e
theorem atI_map {α β : Type} {f : α → β} {xs : List α} {i : Int} {x : α} (e : atI xs i = some x) : atI (xs.map f) i = some (f x) := by
  unfold atI at e ⊢
  rw [List.length_map]
  cases h : ixN xs.length i with
  | none => rw [h] at e; cases e
  | some j =>
    rw [h] at e
    show (xs.map f)[j]? = _
    rw [List.getElem?_map, show xs[j]? = some x from e]; rfl
theorem os_ix : OpS K fIx (rIx K) := by
  intro x y z v w Hk H Q e ex r1 r2 q qn
  unfold fIx at e
  split at e
  · obtain ⟨p1, vs, rfl, h1, s1⟩ := RV.lst.mp r1
    obtain ⟨u, eu, ru⟩ := atI_rv s1 e
    exact .inl ⟨p1, vs, _, u, rfl, RV.int.mp r2, SqL.of (ex _ _ h1), eu, q _ ru⟩
  · obtain ⟨p1, vs, rfl, h1, s1⟩ := RV.tup.mp r1
    obtain ⟨u, eu, ru⟩ := atI_rv s1 e
    exact .inr (.inl ⟨p1, vs, _, u, rfl, RV.int.mp r2, ex_t ex h1, eu, q _ ru⟩)
  · rename_i ns i
    obtain ⟨p1, rfl, h1⟩ := RV.scr.mp r1
    cases h : atI ns i with
    | none => rw [h] at e; cases e
    | some n =>
      rw [h] at e; cases e
      exact .inl ⟨p1, _, _, _, rfl, RV.int.mp r2, ex_l ex h1, atI_map h, q _ (RV.int.mpr rfl)⟩
  · rename_i s i
    split at e
    · rename_i hz
      cases h : atI s.cps.toList i with
      | none => rw [h] at e; cases e
      | some n =>
        rw [h] at e; cases e
        exact .inr (.inr ⟨s, i, n, RV.str.mp r1, RV.int.mp r2, szOk_iff.mp hz, h, q _ (RV.str.mpr rfl)⟩)
    · cases e
  · cases e
def flatM : MV → Bool
  | .non | .bl _ | .int _ | .str _ => true
  | _ => false
def eqFlat : MV → MV → Bool
  | .non, .non => true
  | .bl a, .bl b => a == b
  | .bl a, .int b => (if a then 1 else 0) == b
  | .int a, .bl b => a == (if b then 1 else 0)
  | .int a, .int b => a == b
  | .str a, .str b => a == b
  | _, _ => false
theorem flat_v {H : Hp} {x : MV} {v : V} (h : flatM x = true) (r : RV K H x v) : flatV v = true := by
  unfold flatM at h
  split at h <;> first | (cases h; done) | skip
  · rw [RV.non.mp r]; rfl
  · rw [RV.bl.mp r]; rfl
  · rw [RV.int.mp r]; rfl
  · rw [RV.str.mp r]; rfl
theorem flat_eq {H : Hp} {x y : MV} {v w : V} (h : flatM x = true) (h2 : flatM y = true) (r : RV K H x v) (r2 : RV K H y w) : eqV v w = eqFlat x y := by
  unfold flatM at h h2
  split at h <;> first | (cases h; done) | skip
  all_goals (split at h2 <;> first | (cases h2; done) | skip)
  all_goals
    first
      | (rw [RV.non.mp r] ) | (rw [RV.int.mp r]) | (rw [RV.bl.mp r]) | (rw [RV.str.mp r])
    first
      | (rw [RV.non.mp r2] ) | (rw [RV.int.mp r2]) | (rw [RV.bl.mp r2]) | (rw [RV.str.mp r2])
    rfl
theorem flats_v {H : Hp} : ∀ {xs : List MV} {vs : List V}, xs.all flatM = true → RVs K H xs vs → vs.all flatV = true
  | [], vs, _, r => by rw [RVs.nil.mp r]; rfl
  | x :: xs, vs, h, r => by
    obtain ⟨v, us, rfl, r1, r2⟩ := RVs.cons.mp r
    rw [List.all_cons, Bool.and_eq_true] at h
    rw [List.all_cons, flat_v h.1 r1, flats_v h.2 r2]; rfl
theorem inV_eq {H : Hp} {y : MV} {w : V} (hy : flatM y = true) (ry : RV K H y w) : ∀ {xs : List MV} {vs : List V}, xs.all flatM = true → RVs K H xs vs → inV w vs = xs.any fun x => eqFlat x y
  | [], vs, _, r => by rw [RVs.nil.mp r]; rfl
  | x :: xs, vs, h, r => by
    obtain ⟨v, us, rfl, r1, r2⟩ := RVs.cons.mp r
    rw [List.all_cons, Bool.and_eq_true] at h
    have ih := inV_eq hy ry h.2 r2
    unfold inV at ih ⊢
    rw [List.any_cons, List.any_cons, ih, flat_eq h.1 hy r1 ry]
def inM (y : MV) (xs : List MV) : Option Bool := if flatM y && xs.all flatM then some (xs.any fun x => eqFlat x y) else none
def inA : MV → MV → Option Bool
  | y, .lst xs => inM y xs
  | y, .tup xs => inM y xs
  | .str i, .str j => some (!(Builtin.Str.occurrences j i 0 j.length 1).isEmpty)
  | _, _ => none
def fNotIn (x y : MV) : Option MV := (inA x y).map fun b => .bl (!b)
def rNotInM (K : PySem.W.Frag) : R2 := fun x y H Q => rIn K true x y H Q ∨ (∃ i j, x = .str i ∧ y = .str j ∧ Q (.bl (!(!(Builtin.Str.occurrences j i 0 j.length 1).isEmpty))) H)
theorem op_notInM {X : Cx} : OpR X (compareOp .NotIn) (rNotInM X.K) := OpR.or op_notIn_seq op_notin_str
theorem in_sq {Hk H : Hp} {x y : MV} {v w : V} {b : Bool} (ex : Ex Hk H) (r1 : RV K Hk x v) (r2 : RV K Hk y w) (e : inA x y = some b) :
    (∃ p xs, w = .ref p ∧ (SqL K H p xs ∨ SqT K H p xs) ∧ flatV v = true ∧ xs.all flatV = true ∧ inV v xs = b) ∨ (∃ i j, v = .str i ∧ w = .str j ∧ (!(Builtin.Str.occurrences j i 0 j.length 1).isEmpty) = b) := by
  unfold inA at e
  split at e
  · unfold inM at e
    split at e
    · rename_i h
      cases e
      rw [Bool.and_eq_true] at h
      obtain ⟨p1, vs, rfl, h1, s1⟩ := RV.lst.mp r2
      exact .inl ⟨p1, vs, rfl, .inl (SqL.of (ex _ _ h1)), flat_v h.1 r1, flats_v h.2 s1, inV_eq h.1 r1 h.2 s1⟩
    · cases e
  · unfold inM at e
    split at e
    · rename_i h
      cases e
      rw [Bool.and_eq_true] at h
      obtain ⟨p1, vs, rfl, h1, s1⟩ := RV.tup.mp r2
      exact .inl ⟨p1, vs, rfl, .inr (ex_t ex h1), flat_v h.1 r1, flats_v h.2 s1, inV_eq h.1 r1 h.2 s1⟩
    · cases e
  · cases e
    exact .inr ⟨_, _, RV.str.mp r1, RV.str.mp r2, rfl⟩
  · cases e
theorem os_notIn : OpS K fNotIn (rNotInM K) := by
  intro x y z v w Hk H Q e ex r1 r2 q qn
  unfold fNotIn at e
  cases eb : inA x y with
  | none => rw [eb] at e; cases e
  | some b =>
    rw [eb] at e; cases e
    rcases in_sq ex r1 r2 eb with ⟨p, xs, e1, e2, e3, e4, e5⟩ | ⟨i, j, e1, e2, e3⟩
    · exact .inl ⟨p, xs, e1, e2, e3, e4, by rw [if_pos rfl, e5]; exact q _ (RV.bl.mpr rfl)⟩
    · exact .inr ⟨i, j, e1, e2, by rw [e3]; exact q _ (RV.bl.mpr rfl)⟩
end
end Tm
set_option Elab.async false
set_option linter.all false
set_option maxRecDepth 100000
set_option maxHeartbeats 2000000
namespace Tm
open PySem L2
open Evl (Ex ex_rd ex_l ex_t)
structure Post (c : Ct) (F : Hp) (bp : List (Nat × Addr)) (σ : St) {β : Type} (P : Hp → Res (β × Env) → Prop) : Prop where
  ex : ∀ Hk e ρ, P Hk (.exc e ρ) → Wish c F Hk bp σ e ρ
  st : ∀ Hk, ¬ P Hk .stuck
  mono : ∀ Hk Hk' r, Ex Hk Hk' → P Hk r → P Hk' r
section
variable {c : Ct} {F Hk H : Hp} {bp : List (Nat × Addr)} {σ : St} {ρ : Env} {β : Type}
theorem postE {Q : VK} : Post c F bp σ fun Hk r => okE c F Hk bp σ Q r := ⟨fun _ _ _ h => h, fun _ h => h, fun _ _ _ x h => okE.mono x h⟩
theorem postO {Q : VK} : Post c F bp σ fun Hk r => okO c F Hk bp σ Q r := ⟨fun _ _ _ h => h, fun _ h => h, fun _ _ _ x h => okO.mono x h⟩
theorem postT {Q : Bool → Hp → Prop} : Post c F bp σ fun Hk r => okT c F Hk bp σ Q r := ⟨fun _ _ _ h => h, fun _ h => h, fun _ _ _ x h => okT.mono x h⟩
theorem postA {Q : List V → Hp → Prop} : Post c F bp σ fun Hk r => okA c F Hk bp σ Q r := ⟨fun _ _ _ h => h, fun _ h => h, fun _ _ _ x h => okA.mono x h⟩
theorem postS {D : Ends} : Post c F bp σ fun Hk r => okS c F Hk bp D r := ⟨fun _ _ _ h Hk' H' cls d => h Hk' H' σ cls d, fun _ h => h, fun _ _ _ x h => okS.mono x h⟩
variable {P : Hp → Res (β × Env) → Prop}
theorem bE (p : Post c F bp σ P) {a : ME} {k : MV → Env → Res (β × Env)} (S : At c F Hk H bp σ ρ) (h : P Hk ((a ρ).bind k)) :
    rdE c a σ H fun v H1 => ∃ Hk1 x ρ1, Ex Hk Hk1 ∧ At c F Hk1 H1 bp σ ρ1 ∧ RV c.K Hk1 x v ∧ P Hk1 (k x ρ1) := by
  refine ⟨F, Hk, bp, ρ, S, ?_⟩
  cases e : a ρ with
  | stuck => rw [e] at h; exact p.st _ h
  | exc x ρ' => rw [e] at h; exact p.ex _ _ _ h
  | ok q =>
    rw [e] at h
    exact fun Hk1 H1 v x1 S1 r1 => ⟨Hk1, q.1, q.2, x1, ⟨S1, S.2⟩, r1, p.mono _ _ _ x1 h⟩
theorem bO (p : Post c F bp σ P) {a : ME} {k : MV → Env → Res (β × Env)} (S : At c F Hk H bp σ ρ) (h : P Hk ((a ρ).bind k)) :
    rdO c a σ H fun v H1 => ∃ Hk1 x ρ1, Ex Hk Hk1 ∧ RS c.K F Hk1 H1 bp (σ ++ [some v]) (ρ1 ++ [some x]) ∧ P Hk1 (k x ρ1) := by
  refine ⟨F, Hk, bp, ρ, S, ?_⟩
  cases e : a ρ with
  | stuck => rw [e] at h; exact p.st _ h
  | exc x ρ' => rw [e] at h; exact p.ex _ _ _ h
  | ok q =>
    rw [e] at h
    exact fun Hk1 H1 v x1 S1 => ⟨Hk1, q.1, q.2, x1, S1, p.mono _ _ _ x1 h⟩
theorem bT (p : Post c F bp σ P) {a : MT} {k : Bool → Env → Res (β × Env)} (S : At c F Hk H bp σ ρ) (h : P Hk ((a ρ).bind k)) :
    rdT c a σ H fun b H1 => ∃ Hk1 ρ1, Ex Hk Hk1 ∧ At c F Hk1 H1 bp σ ρ1 ∧ P Hk1 (k b ρ1) := by
  refine ⟨F, Hk, bp, ρ, S, ?_⟩
  cases e : a ρ with
  | stuck => rw [e] at h; exact p.st _ h
  | exc x ρ' => rw [e] at h; exact p.ex _ _ _ h
  | ok q =>
    rw [e] at h
    exact fun Hk1 H1 x1 S1 => ⟨Hk1, q.2, x1, ⟨S1, S.2⟩, p.mono _ _ _ x1 h⟩
theorem bA (p : Post c F bp σ P) {a : MA} {k : List MV → Env → Res (β × Env)} (S : At c F Hk H bp σ ρ) (h : P Hk ((a ρ).bind k)) :
    rdA c a σ H fun vs H1 => ∃ Hk1 xs ρ1, Ex Hk Hk1 ∧ At c F Hk1 H1 bp σ ρ1 ∧ RVs c.K Hk1 xs vs ∧ P Hk1 (k xs ρ1) := by
  refine ⟨F, Hk, bp, ρ, S, ?_⟩
  cases e : a ρ with
  | stuck => rw [e] at h; exact p.st _ h
  | exc x ρ' => rw [e] at h; exact p.ex _ _ _ h
  | ok q =>
    rw [e] at h
    exact fun Hk1 H1 vs x1 S1 r1 => ⟨Hk1, q.1, q.2, x1, ⟨S1, S.2⟩, r1, p.mono _ _ _ x1 h⟩
end
section
variable {c : Ct}
theorem okE.imp {F Hk : Hp} {bp : List (Nat × Addr)} {σ : St} {Q Q' : VK} {r : Res (MV × Env)} (h : okE c F Hk bp σ Q r) (w : ∀ v H, Q v H → Q' v H) : okE c F Hk bp σ Q' r := by
  cases r with
  | ok a => exact fun Hk2 H2 v x S r => w _ _ (h Hk2 H2 v x S r)
  | exc e ρ => exact h
  | stuck => exact h
theorem okT.imp {F Hk : Hp} {bp : List (Nat × Addr)} {σ : St} {Q Q' : Bool → Hp → Prop} {r : Res (Bool × Env)} (h : okT c F Hk bp σ Q r) (w : ∀ v H, Q v H → Q' v H) : okT c F Hk bp σ Q' r := by
  cases r with
  | ok a => exact fun Hk2 H2 x S => w _ _ (h Hk2 H2 x S)
  | exc e ρ => exact h
  | stuck => exact h
theorem okA.imp {F Hk : Hp} {bp : List (Nat × Addr)} {σ : St} {Q Q' : List V → Hp → Prop} {r : Res (List MV × Env)} (h : okA c F Hk bp σ Q r) (w : ∀ v H, Q v H → Q' v H) : okA c F Hk bp σ Q' r := by
  cases r with
  | ok a => exact fun Hk2 H2 v x S r => w _ _ (h Hk2 H2 v x S r)
  | exc e ρ => exact h
  | stuck => exact h
theorem okO.imp {F Hk : Hp} {bp : List (Nat × Addr)} {σ : St} {Q Q' : VK} {r : Res (MV × Env)} (h : okO c F Hk bp σ Q r) (w : ∀ v H, Q v H → Q' v H) : okO c F Hk bp σ Q' r := by
  cases r with
  | ok a => exact fun Hk2 H2 v x S => w _ _ (h Hk2 H2 v x S)
  | exc e ρ => exact h
  | stuck => exact h
theorem rdw {m : ME} {σ : St} {H : Hp} {Q Q' : VK} (h : rdE c m σ H Q) (w : ∀ v H, Q v H → Q' v H) : rdE c m σ H Q' := let ⟨F, Hk, bp, ρ, S, q⟩ := h; ⟨F, Hk, bp, ρ, S, q.imp w⟩
theorem rdOw {m : ME} {σ : St} {H : Hp} {Q Q' : VK} (h : rdO c m σ H Q) (w : ∀ v H, Q v H → Q' v H) : rdO c m σ H Q' := let ⟨F, Hk, bp, ρ, S, q⟩ := h; ⟨F, Hk, bp, ρ, S, q.imp w⟩
theorem rdTw {m : MT} {σ : St} {H : Hp} {Q Q' : Bool → Hp → Prop} (h : rdT c m σ H Q) (w : ∀ v H, Q v H → Q' v H) : rdT c m σ H Q' := let ⟨F, Hk, bp, ρ, S, q⟩ := h; ⟨F, Hk, bp, ρ, S, q.imp w⟩
theorem rdAw {m : MA} {σ : St} {H : Hp} {Q Q' : List V → Hp → Prop} (h : rdA c m σ H Q) (w : ∀ v H, Q v H → Q' v H) : rdA c m σ H Q' := let ⟨F, Hk, bp, ρ, S, q⟩ := h; ⟨F, Hk, bp, ρ, S, q.imp w⟩
end
section
variable {X : Cx} {c : Ct}
def mTest (a : ME) : MT := fun ρ => (a ρ).bind fun x ρ1 => match x with | .bl b => .ok (b, ρ1) | _ => .stuck
theorem rd_test {a : ME} {σ : St} {H : Hp} {Q : Bool → Hp → Prop} (h : rdT c (mTest a) σ H Q) : (rdE c a) σ H fun x H' => ∃ k, x = .bl k ∧ Q k H' := by
  obtain ⟨F, Hk, bp, ρ, S, h⟩ := h
  obtain ⟨F', Hk', bp', ρ', S', h'⟩ := bE postT S h
  refine ⟨F', Hk', bp', ρ', S', ?_⟩
  cases e : a ρ' with
  | stuck => rw [e] at h'; exact h'
  | exc x r => rw [e] at h'; exact h'
  | ok q =>
    rw [e] at h'
    intro Hk1 H1 v x1 S1 r1
    obtain ⟨Hk2, x, ρ2, x2, S2, r2, h2⟩ := h' Hk1 H1 v x1 S1 r1
    cases x with
    | bl b => exact ⟨b, RV.bl.mp r2, h2 _ _ (Ex.refl _) S2.1⟩
    | _ => exact h2.elim
theorem mt_cmp {op : CmpOp} {f : MV → MV → Option MV} {r : R2} {a b : Expr} {ma mb : ME} {pos : Pos} (ho : OpR X (compareOp op) r) (o : OpS c.K f r) (ha : PE X a (rdE c ma)) (hb : PE X b (rdE c mb)) (hm : behindInMarks op b = false) :
    PT X (.Compare a [op] [b] pos) (rdT c (mTest (mOp f ma mb))) := PTw (pt_cmpR ho ha hb hm) fun σ H Q h => rd_op (Q := fun x H' => ∃ k, x = .bl k ∧ Q k H') o (rd_test h)
theorem mt_val {e : Expr} {m : ME} (h : PE X e (rdE c m)) (he : ∀ whole, isTrue e X.env whole = (do let v ← whole; standAt e.pos; holding [v] (truthy v)) := by intro _; rfl) : PT X e (rdT c (mTest m)) :=
  PTw (pt_val h he) fun σ H Q h => rd_test h
def mChain (f g : MV → MV → Option MV) (a b d : ME) : ME := fun ρ => (a ρ).bind fun x ρ1 => (b ρ1).bind fun y ρ2 => match f x y with
  | some (.bl true) => (d ρ2).bind fun z ρ3 => match g y z with | some w => .ok (w, ρ3) | none => .stuck
  | some (.bl false) => .ok (.bl false, ρ2)
  | _ => .stuck
theorem opEnd {f : MV → MV → Option MV} {r : R2} (o : OpS c.K f r) {F Hk H : Hp} {bp : List (Nat × Addr)} {σ : St} {ρ : Env} {Q : VK} {x y : MV} {v w : V} (S : At c F Hk H bp σ ρ) (r1 : RV c.K Hk x v) (r2 : RV c.K Hk y w)
    (h : okE c F Hk bp σ Q (match f x y with | some z => .ok (z, ρ) | none => .stuck)) : r v w H Q := by
  cases e : f x y with
  | none => rw [e] at h; exact h.elim
  | some z =>
    rw [e] at h
    exact o x y z v w Hk H Q e S.1.ex r1 r2 (fun u ru => h _ _ u (Ex.refl _) S.1 ru) fun p ob hp ru => h _ _ _ (Ex.new (S.1.ex.back hp)) (S.1.new hp) ru
theorem rd_chain {f g : MV → MV → Option MV} {r r' : R2} (o : OpS c.K f r) (o' : OpS c.K g r') {a b d : ME} {σ : St} {H : Hp} {Q : VK} (h : rdE c (mChain f g a b d) σ H Q) : tChain r r' (rdE c a) (rdE c b) (rdE c d) σ H Q := by
  obtain ⟨F, Hk, bp, ρ, S, h⟩ := h
  refine rdw (bE postE S h) fun v H1 ⟨Hk1, x, ρ1, x1, S1, r1, h1⟩ => ?_
  refine rdw (bE postE S1 h1) fun w H2 ⟨Hk2, y, ρ2, x2, S2, r2, h2⟩ => ?_
  split at h2
  · rename_i e
    refine o x y _ v w Hk2 H2 _ e S2.1.ex (RV.mono x2 _ _ r1) r2 (fun u ru => ⟨true, RV.bl.mp ru, ?_⟩) fun p ob hp ru => nomatch (RV.bl.mp ru)
    rw [if_pos rfl]
    refine rdw (bE postE S2 h2) fun z H3 ⟨Hk3, zz, ρ3, x3, S3, r3, h3⟩ => ?_
    exact opEnd o' S3 (RV.mono x3 _ _ r2) r3 h3
  · rename_i e
    refine o x y _ v w Hk2 H2 _ e S2.1.ex (RV.mono x2 _ _ r1) r2 (fun u ru => ⟨false, RV.bl.mp ru, ?_⟩) fun p ob hp ru => nomatch (RV.bl.mp ru)
    rw [if_neg (by decide)]
    exact h2 _ _ _ (Ex.refl _) S2.1 (RV.bl.mpr rfl)
  · exact h2.elim
theorem mt_chain {op op' : CmpOp} {f g : MV → MV → Option MV} {r r' : R2} {a b d : Expr} {ma mb md : ME} {pos : Pos} (ho : OpR X (compareOp op) r) (o : OpS c.K f r) (ho' : OpR X (compareOp op') r') (o' : OpS c.K g r')
    (ha : PE X a (rdE c ma)) (hb : PE X b (rdE c mb)) (hd : PE X d (rdE c md)) (hm : lastMarks [op, op'] [b, d] = false := by with_unfolding_all rfl) : PT X (.Compare a [op, op'] [b, d] pos) (rdT c (mTest (mChain f g ma mb md))) :=
  PTw (pt_chain ho ho' ha hb hd hm) fun σ H Q h => rd_chain (Q := fun x H' => ∃ k, x = .bl k ∧ Q k H') o o' (rd_test h)
def mAndT (a b : MT) : MT := fun ρ => (a ρ).bind fun x ρ1 => if x then b ρ1 else .ok (false, ρ1)
def mOrT (a b : MT) : MT := fun ρ => (a ρ).bind fun x ρ1 => if x then .ok (true, ρ1) else b ρ1
def mNotT (a : MT) : MT := fun ρ => (a ρ).bind fun x ρ1 => .ok (!x, ρ1)
def mBv (t : MT) : ME := fun ρ => (t ρ).bind fun x ρ1 => .ok (.bl x, ρ1)
theorem rd_andT {a b : MT} {σ : St} {H : Hp} {Q : Bool → Hp → Prop} (h : rdT c (mAndT a b) σ H Q) : tAnd (rdT c a) (rdT c b) σ H Q := by
  obtain ⟨F, Hk, bp, ρ, S, h⟩ := h
  refine rdTw (bT postT S h) fun k H1 ⟨Hk1, ρ1, x1, S1, h1⟩ => ?_
  cases k with
  | true => rw [if_pos rfl] at h1 ⊢; exact ⟨F, Hk1, bp, ρ1, S1, h1⟩
  | false => rw [if_neg (by decide)] at h1 ⊢; exact h1 _ _ (Ex.refl _) S1.1
theorem rd_orT {a b : MT} {σ : St} {H : Hp} {Q : Bool → Hp → Prop} (h : rdT c (mOrT a b) σ H Q) : tOr (rdT c a) (rdT c b) σ H Q := by
  obtain ⟨F, Hk, bp, ρ, S, h⟩ := h
  refine rdTw (bT postT S h) fun k H1 ⟨Hk1, ρ1, x1, S1, h1⟩ => ?_
  cases k with
  | true => rw [if_pos rfl] at h1 ⊢; exact h1 _ _ (Ex.refl _) S1.1
  | false => rw [if_neg (by decide)] at h1 ⊢; exact ⟨F, Hk1, bp, ρ1, S1, h1⟩
theorem rd_notT {a : MT} {σ : St} {H : Hp} {Q : Bool → Hp → Prop} (h : rdT c (mNotT a) σ H Q) : tNot (rdT c a) σ H Q := by
  obtain ⟨F, Hk, bp, ρ, S, h⟩ := h
  exact rdTw (bT postT S h) fun k H1 ⟨Hk1, ρ1, x1, S1, h1⟩ => h1 _ _ (Ex.refl _) S1.1
theorem mw_one_or {a : Expr} {m : MT} {pos : Pos} (h : PT X a (rdT c m)) : PW X (.BoolOp .Or [a] pos) (rdT c m) := pw_or1 h
theorem mw_or {a b : Expr} {r : List Expr} {m n : MT} {pos : Pos} (h : PT X a (rdT c m)) (g : PW X (.BoolOp .Or (b :: r) pos) (rdT c n)) : PW X (.BoolOp .Or (a :: b :: r) pos) (rdT c (mOrT m n)) := PWw (pw_or h g) fun _ _ _ q => rd_orT q
theorem mt_not {a : Expr} {m : MT} {pos : Pos} (h : PT X a (rdT c m)) : PT X (.UnaryOp .Not a pos) (rdT c (mNotT m)) := PTw (pt_not h) fun _ _ _ q => rd_notT q
theorem okBv {F Hk : Hp} {bp : List (Nat × Addr)} {σ : St} {Q : VK} {r : Res (Bool × Env)} (h : okT c F Hk bp σ (fun k H => Q (.bl k) H) r) : okE c F Hk bp σ Q (r.bind fun x ρ1 => .ok (.bl x, ρ1)) := by
  cases r with
  | ok a =>
    intro Hk2 H2 v x S rv
    rw [RV.bl.mp rv]
    exact h Hk2 H2 x S
  | exc e ρ => exact h
  | stuck => exact h
theorem rdBv {t : MT} {σ : St} {H : Hp} {Q : VK} (h : rdT c t σ H fun k H1 => Q (.bl k) H1) : rdE c (mBv t) σ H Q := let ⟨F, Hk, bp, ρ, S, q⟩ := h; ⟨F, Hk, bp, ρ, S, okBv q⟩
theorem rdBv' {t : MT} {σ : St} {H : Hp} {Q : VK} (h : rdE c (mBv t) σ H Q) : rdT c t σ H fun k H1 => Q (.bl k) H1 := by
  obtain ⟨F, Hk, bp, ρ, S, h⟩ := h
  exact rdTw (bT postE S h) fun k H1 ⟨Hk1, ρ1, x1, S1, h1⟩ => h1 _ _ _ (Ex.refl _) S1.1 (RV.bl.mpr rfl)
end
end Tm
set_option Elab.async false
set_option linter.all false
set_option maxRecDepth 100000
set_option maxHeartbeats 2000000
namespace Tm
open PySem L2
open Evl (Ex ex_rd ex_l ex_t)
section
variable {X : Cx} {c : Ct}
theorem rd_oneV {a : ME} {σ : St} {H : Hp} {Q : VK} (h : rdE c (mBv (mTest a)) σ H Q) : rdE c a σ H Q := rdw (rd_test (rdBv' h)) fun v H1 ⟨k, e, q⟩ => by rw [e]; exact q
theorem me_one {op : BoolOp} {a : Expr} {m : ME} {pos : Pos} (h : PE X a (rdE c m)) : PE X (.BoolOp op [a] pos) (rdE c (mBv (mTest m))) := PEw (pe_one h) fun _ _ _ q => rd_oneV q
theorem me_and {a b : Expr} {r : List Expr} {m : ME} {t : MT} {pos : Pos} (h : PE X a (rdE c m)) (g : PE X (.BoolOp .And (b :: r) pos) (rdE c (mBv t))) : PE X (.BoolOp .And (a :: b :: r) pos) (rdE c (mBv (mAndT (mTest m) t))) :=
  PEw (pe_and h g) fun σ H Q q => rdw (rd_test (rd_andT (rdBv' q))) fun v H1 ⟨k, e, q⟩ => ⟨k, e, by
    cases k with
    | true => rw [if_pos rfl] at q ⊢; exact rdBv q
    | false => rw [if_neg (by decide)] at q ⊢; exact q⟩
theorem me_or {a b : Expr} {r : List Expr} {m : ME} {t : MT} {pos : Pos} (h : PE X a (rdE c m)) (g : PE X (.BoolOp .Or (b :: r) pos) (rdE c (mBv t))) : PE X (.BoolOp .Or (a :: b :: r) pos) (rdE c (mBv (mOrT (mTest m) t))) :=
  PEw (pe_or h g) fun σ H Q q => rdw (rd_test (rd_orT (rdBv' q))) fun v H1 ⟨k, e, q⟩ => ⟨k, e, by
    cases k with
    | true => rw [if_pos rfl] at q ⊢; exact q
    | false => rw [if_neg (by decide)] at q ⊢; exact rdBv q⟩
theorem me_not {a : Expr} {m : ME} {pos : Pos} (h : PE X a (rdE c m)) : PE X (.UnaryOp .Not a pos) (rdE c (mBv (mNotT (mTest m)))) :=
  PEw (pe_not h) fun σ H Q q => rdw (rd_test (rd_notT (rdBv' q))) fun v H1 ⟨k, e, q⟩ => ⟨k, e, q⟩
def mUn (f : MV → Option MV) (a : ME) : ME := fun ρ => (a ρ).bind fun x ρ1 => match f x with | some z => .ok (z, ρ1) | none => .stuck
def fNeg : MV → Option MV
  | .int i => some (.int (-i))
  | _ => none
def UnS (K : PySem.W.Frag) (f : MV → Option MV) (r : V → Hp → VK → Prop) : Prop := ∀ (x z : MV) (v : V) (Hk H : Hp) (Q : VK), f x = some z → Ex Hk H → RV K Hk x v → (∀ u, RV K Hk z u → Q u H) →
  (∀ p o, H p = none → RV K (upd Hk p o) z (.ref p) → Q (.ref p) (upd H p o)) → r v H Q
theorem unEnd {f : MV → Option MV} {r : V → Hp → VK → Prop} (o : UnS c.K f r) {F Hk H : Hp} {bp : List (Nat × Addr)} {σ : St} {ρ : Env} {Q : VK} {x : MV} {v : V} (S : At c F Hk H bp σ ρ) (r1 : RV c.K Hk x v)
    (h : okE c F Hk bp σ Q (match f x with | some z => .ok (z, ρ) | none => .stuck)) : r v H Q := by
  cases e : f x with
  | none => rw [e] at h; exact h.elim
  | some z =>
    rw [e] at h
    exact o x z v Hk H Q e S.1.ex r1 (fun u ru => h _ _ u (Ex.refl _) S.1 ru) fun p ob hp ru => h _ _ _ (Ex.new (S.1.ex.back hp)) (S.1.new hp) ru
theorem rd_un {f : MV → Option MV} {r : V → Hp → VK → Prop} (o : UnS c.K f r) {a : ME} {σ : St} {H : Hp} {Q : VK} (h : rdE c (mUn f a) σ H Q) : tUn r (rdE c a) σ H Q := by
  obtain ⟨F, Hk, bp, ρ, S, h⟩ := h
  exact rdw (bE postE S h) fun v H1 ⟨Hk1, x, ρ1, x1, S1, r1, h1⟩ => unEnd o S1 r1 h1
theorem us_neg {K : PySem.W.Frag} : UnS K fNeg (rU fun i => .int (-i)) := by
  intro x z v Hk H Q e ex r1 q qn
  unfold fNeg at e
  split at e
  · cases e; exact ⟨_, RV.int.mp r1, q _ (RV.int.mpr rfl)⟩
  · cases e
theorem me_neg {a : Expr} {m : ME} {pos : Pos} (h : PE X a (rdE c m)) : PE X (.UnaryOp .USub a pos) (rdE c (mUn fNeg m)) := PEw (pe_un un_neg h) fun _ _ _ q => rd_un us_neg q
def mNil : MA := fun ρ => .ok ([], ρ)
def mCons (a : ME) (b : MA) : MA := fun ρ => (a ρ).bind fun x ρ1 => (b ρ1).bind fun xs ρ2 => .ok (x :: xs, ρ2)
theorem ma_nil : PA X [] (rdA c mNil) := PAw pa_nil fun σ H Q h => by
  obtain ⟨F, Hk, bp, ρ, S, h⟩ := h
  exact h _ _ _ (Ex.refl _) S.1 (RVs.nil.mpr rfl)
theorem ma_cons {e : Expr} {es : List Expr} {a : ME} {b : MA} (ha : PE X e (rdE c a)) (hb : PA X es (rdA c b)) (hs : starEach (e :: es) X.env = (false, eval e X.env) :: starEach es X.env := by rfl) : PA X (e :: es) (rdA c (mCons a b)) :=
  PAw (pa_cons ha hb hs) fun σ H Q h => by
    obtain ⟨F, Hk, bp, ρ, S, h⟩ := h
    refine rdw (bE postA S h) fun v H1 ⟨Hk1, x, ρ1, x1, S1, r1, h1⟩ => ?_
    refine rdAw (bA postA S1 h1) fun vs H2 ⟨Hk2, xs, ρ2, x2, S2, r2, h2⟩ => ?_
    exact h2 _ _ _ (Ex.refl _) S2.1 (RVs.cons.mpr ⟨v, vs, rfl, RV.mono x2 _ _ r1, r2⟩)
def mTup (a : MA) : ME := fun ρ => (a ρ).bind fun xs ρ1 => if szOk xs.length then .ok (.tup xs, ρ1) else .stuck
def mLst (a : MA) : ME := fun ρ => (a ρ).bind fun xs ρ1 => if szOk xs.length then .ok (.lst xs, ρ1) else .stuck
def mLstO (a : MA) : ME := fun ρ => (a ρ).bind fun xs ρ1 => if szOk xs.length then .ok (.own xs, ρ1) else .stuck
theorem me_tup {es : List Expr} {a : MA} {pos : Pos} {k : Nat} (h : PA X es (rdA c a)) : PE X (.Tuple es k pos) (rdE c (mTup a)) := PEw (pe_tup h) fun σ H Q h => by
  obtain ⟨F, Hk, bp, ρ, S, h⟩ := h
  refine rdAw (bA postE S h) fun vs H1 ⟨Hk1, xs, ρ1, x1, S1, r1, h1⟩ => ?_
  split at h1
  · rename_i hz
    refine ⟨by rw [r1.length]; exact szOk_iff.mp hz, fun p hp => h1 _ _ _ (Ex.new (S1.1.ex.back hp)) (S1.1.new hp) (RV.tup.mpr ⟨p, vs, rfl, SqT.of upd_same, r1.mono (Ex.new (S1.1.ex.back hp))⟩)⟩
  · exact h1.elim
theorem me_lst {es : List Expr} {a : MA} {pos : Pos} (h : PA X es (rdA c a)) : PE X (.List es pos) (rdE c (mLst a)) := PEw (pe_lst h) fun σ H Q h => by
  obtain ⟨F, Hk, bp, ρ, S, h⟩ := h
  refine rdAw (bA postE S h) fun vs H1 ⟨Hk1, xs, ρ1, x1, S1, r1, h1⟩ => ?_
  split at h1
  · rename_i hz
    refine ⟨by rw [r1.length]; exact szOk_iff.mp hz, fun p hp => h1 _ _ _ (Ex.new (S1.1.ex.back hp)) (S1.1.new hp) (RV.lst.mpr ⟨p, vs, rfl, upd_same, r1.mono (Ex.new (S1.1.ex.back hp))⟩)⟩
  · exact h1.elim
theorem mo_lst {es : List Expr} {a : MA} {pos : Pos} (h : PA X es (rdA c a)) : PE X (.List es pos) (rdO c (mLstO a)) := PEw (pe_lst h) fun σ H Q h => by
  obtain ⟨F, Hk, bp, ρ, S, h⟩ := h
  refine rdAw (bA postO S h) fun vs H1 ⟨Hk1, xs, ρ1, x1, S1, r1, h1⟩ => ?_
  split at h1
  · rename_i hz
    exact ⟨by rw [r1.length]; exact szOk_iff.mp hz, fun p hp => h1 _ _ _ (Ex.refl _) (S1.1.pushOwn hp r1)⟩
  · exact h1.elim
theorem me_ix {a b : Expr} {ma mb : ME} {pos : Pos} (ha : PE X a (rdE c ma)) (hb : PE X b (rdE c mb)) (hK : c.K = X.K := by rfl) (hs : PlainIx b := by exact fun _ _ => rfl) : PE X (.Subscript a b pos) (rdE c (mOp fIx ma mb)) :=
  PEw (pe_ix ix_seq ha hb hs) fun _ _ _ q => rd_op (by rw [hK]; exact os_ix) q
theorem flat_rv {K : PySem.W.Frag} {H H' : Hp} {z : MV} {u : V} (h : flatM z = true) (r : RV K H z u) : RV K H' z u := by
  unfold flatM at h
  split at h <;> first | (cases h; done) | skip
  · rw [RV.non] at r ⊢; exact r
  · rw [RV.bl] at r ⊢; exact r
  · rw [RV.int] at r ⊢; exact r
  · rw [RV.str] at r ⊢; exact r
def has (ρ : Env) (i : Nat) : Bool := match ρ[i]? with | some (some _) => true | _ => false
def mNo : Env → Res (Option Int × Env) := fun ρ => .ok (none, ρ)
def mPart (a : ME) : Env → Res (Option Int × Env) := fun ρ => (a ρ).bind fun x ρ1 => match x with | .int i => .ok (some i, ρ1) | _ => .stuck
def okP (c : Ct) (F Hk : Hp) (bp : List (Nat × Addr)) (σ : St) (Q : Option Int → Hp → Prop) : Res (Option Int × Env) → Prop
  | .ok (x, ρ') => ∀ Hk' H', Ex Hk Hk' → RS c.K F Hk' H' bp σ ρ' → Q x H'
  | .exc e ρ' => Wish c F Hk bp σ e ρ'
  | .stuck => False
theorem okP.mono {F Hk Hk' : Hp} {bp : List (Nat × Addr)} {σ : St} {Q : Option Int → Hp → Prop} {r : Res (Option Int × Env)} (x : Ex Hk Hk') (h : okP c F Hk bp σ Q r) : okP c F Hk' bp σ Q r := by
  cases r with
  | ok a => exact fun Hk2 H2 x2 => h Hk2 H2 (x.trans x2)
  | exc e ρ => exact Wish.mono x h
  | stuck => exact h
theorem postP {F : Hp} {bp : List (Nat × Addr)} {σ : St} {Q : Option Int → Hp → Prop} : Post c F bp σ fun Hk r => okP c F Hk bp σ Q r := ⟨fun _ _ _ h => h, fun _ h => h, fun _ _ _ x h => okP.mono x h⟩
def rdP (c : Ct) (m : Env → Res (Option Int × Env)) : TO := fun σ H Q => ∃ F Hk bp ρ, At c F Hk H bp σ ρ ∧ okP c F Hk bp σ Q (m ρ)
theorem POw {e : Option Expr} {t t' : TO} (h : PO X e t) (w : ∀ σ H Q, t' σ H Q → t σ H Q) : PO X e t' := ⟨fun pins s σ H Q I q => h.run pins s σ H Q I (w σ H Q q)⟩
theorem mp_none : PO X none (rdP c mNo) := POw po_none fun σ H Q ⟨F, Hk, bp, ρ, S, h⟩ => h _ _ (Ex.refl _) S.1
theorem mp_some {e : Expr} {m : ME} (h : PE X e (rdE c m)) : PO X (some e) (rdP c (mPart m)) := POw (po_some h) fun σ H Q ⟨F, Hk, bp, ρ, S, h⟩ => rdw (bE postP S h) fun v H1 ⟨Hk1, x, ρ1, x1, S1, r1, h1⟩ => by
  cases x with
  | int i => exact ⟨i, RV.int.mp r1, h1 _ _ (Ex.refl _) S1.1⟩
  | _ => exact h1.elim
theorem bP {F Hk H : Hp} {bp : List (Nat × Addr)} {σ : St} {ρ : Env} {β : Type} {P : Hp → Res (β × Env) → Prop} (p : Post c F bp σ P) {a : Env → Res (Option Int × Env)} {k : Option Int → Env → Res (β × Env)} (S : At c F Hk H bp σ ρ) (h : P Hk ((a ρ).bind k)) :
    rdP c a σ H fun b H1 => ∃ Hk1 ρ1, Ex Hk Hk1 ∧ At c F Hk1 H1 bp σ ρ1 ∧ P Hk1 (k b ρ1) := by
  refine ⟨F, Hk, bp, ρ, S, ?_⟩
  cases e : a ρ with
  | stuck => rw [e] at h; exact p.st _ h
  | exc x ρ' => rw [e] at h; exact p.ex _ _ _ h
  | ok q =>
    rw [e] at h
    exact fun Hk1 H1 x1 S1 => ⟨Hk1, q.2, x1, ⟨S1, S.2⟩, p.mono _ _ _ x1 h⟩
def cutM (xs : List MV) (lo hi : Option Int) : List MV := (xs.drop (HT.sIx xs.length 0 lo)).take (HT.sIx xs.length xs.length hi - HT.sIx xs.length 0 lo)
theorem RVs.cut {K : PySem.W.Frag} {H : Hp} {xs : List MV} {vs : List V} (r : RVs K H xs vs) (lo hi : Option Int) : RVs K H (cutM xs lo hi) (cutV vs lo hi) := by
  unfold cutM cutV
  rw [r.length]
  exact (r.drop _).take _
def fSl : MV → Option Int → Option Int → Option MV
  | .lst xs, lo, hi => some (.lst (cutM xs lo hi))
  | .tup xs, lo, hi => some (.tup (cutM xs lo hi))
  | .str z, lo, hi => if szOk z.length then some (.str (cutS z lo hi)) else none
  | _, _, _ => none
def rSlM (K : PySem.W.Frag) : V → Option Int → Option Int → Hp → VK → Prop := fun x lo hi H Q => rSlL K x lo hi H Q ∨ rSlA K x lo hi H Q ∨ rSlS x lo hi H Q
theorem sl_M : SlR X (rSlM X.K) := SlR.or sl_list (SlR.or sl_tupA sl_str)
theorem whole_cut {xs : List MV} {lo hi : Option Int} (h : HT.sIx xs.length 0 lo = 0 ∧ HT.sIx xs.length xs.length hi = xs.length) : cutM xs lo hi = xs := by
  unfold cutM
  rw [h.1, h.2]
  simp
theorem os_sl {K : PySem.W.Frag} {x z : MV} {lo hi : Option Int} {v : V} {Hk H : Hp} {Q : VK} (e : fSl x lo hi = some z) (ex : Ex Hk H) (r1 : RV K Hk x v) (q : ∀ u, RV K Hk z u → Q u H)
    (qn : ∀ p o, H p = none → RV K (upd Hk p o) z (.ref p) → Q (.ref p) (upd H p o)) : rSlM K v lo hi H Q := by
  unfold fSl at e
  split at e
  · cases e
    obtain ⟨p1, vs, rfl, h1, s1⟩ := RV.lst.mp r1
    refine .inl ⟨p1, vs, rfl, SqL.of (ex _ _ h1), fun p hp => qn p _ hp ?_⟩
    exact RV.lst.mpr ⟨p, _, rfl, upd_same, (s1.cut lo hi).mono (Ex.new (ex.back hp))⟩
  · cases e
    obtain ⟨p1, vs, rfl, h1, s1⟩ := RV.tup.mp r1
    refine .inr (.inl ⟨p1, vs, rfl, ex_t ex h1, fun hw => ?_, fun hw p hp => qn p _ hp ?_⟩)
    · rw [s1.length] at hw
      rw [whole_cut hw] at q
      exact q _ r1
    · exact RV.tup.mpr ⟨p, _, rfl, SqT.of upd_same, (s1.cut lo hi).mono (Ex.new (ex.back hp))⟩
  · split at e
    · rename_i hz
      cases e
      exact .inr (.inr ⟨_, RV.str.mp r1, szOk_iff.mp hz, q _ (RV.str.mpr rfl)⟩)
    · cases e
  · cases e
def mSl (a : ME) (l h : Env → Res (Option Int × Env)) : ME := fun ρ => (a ρ).bind fun x ρ1 => (l ρ1).bind fun i ρ2 => (h ρ2).bind fun j ρ3 => match fSl x i j with | some z => .ok (z, ρ3) | none => .stuck
theorem rd_sl {a : ME} {l h' : Env → Res (Option Int × Env)} {σ : St} {H : Hp} {Q : VK} (h : rdE c (mSl a l h') σ H Q) : tSl (rSlM c.K) (rdE c a) (rdP c l) (rdP c h') σ H Q := by
  obtain ⟨F, Hk, bp, ρ, S, h⟩ := h
  refine rdw (bE postE S h) fun v H1 ⟨Hk1, x, ρ1, x1, S1, r1, h1⟩ => ?_
  have w : ∀ {m : Env → Res (Option Int × Env)} {σ : St} {H : Hp} {Q Q' : Option Int → Hp → Prop}, rdP c m σ H Q → (∀ v H, Q v H → Q' v H) → rdP c m σ H Q' := fun {m σ H Q Q'} ⟨F, Hk, bp, ρ, S, q⟩ w => ⟨F, Hk, bp, ρ, S, by
    cases e : m ρ with
    | ok a => rw [e] at q; exact fun Hk2 H2 x S => w _ _ (q Hk2 H2 x S)
    | exc e' ρ => rw [e] at q; exact q
    | stuck => rw [e] at q; exact q⟩
  refine w (bP postE S1 h1) fun i H2 ⟨Hk2, ρ2, x2, S2, h2⟩ => ?_
  refine w (bP postE S2 h2) fun j H3 ⟨Hk3, ρ3, x3, S3, h3⟩ => ?_
  have h3 : okE c F Hk3 bp σ Q (match fSl x i j with | some z => .ok (z, ρ3) | none => .stuck) := h3
  cases e : fSl x i j with
  | none => rw [e] at h3; exact h3.elim
  | some z =>
    rw [e] at h3
    exact os_sl e S3.1.ex (RV.mono (x2.trans x3) _ _ r1) (fun u ru => h3 _ _ u (Ex.refl _) S3.1 ru) fun p ob hp ru => h3 _ _ _ (Ex.new (S3.1.ex.back hp)) (S3.1.new hp) ru
theorem me_sl {a : Expr} {lo hi : Option Expr} {ma : ME} {ml mh : Env → Res (Option Int × Env)} {pos p2 : Pos} (ha : PE X a (rdE c ma)) (hl : PO X lo (rdP c ml)) (hh : PO X hi (rdP c mh)) (hK : c.K = X.K := by rfl) : PE X (.Subscript a (.Slice lo hi none p2) pos) (rdE c (mSl ma ml mh)) :=
  PEw (pe_slice sl_M ha hl hh) fun _ _ _ q => by rw [← hK]; exact rd_sl q
section
variable {a b : Expr} {ma mb : ME} {pos : Pos}
theorem me_add (ha : PE X a (rdE c ma)) (hb : PE X b (rdE c mb)) (hK : c.K = X.K := by rfl) : PE X (.BinOp a .Add b pos) (rdE c (mOp fAdd ma mb)) := me_op op_addM (by rw [← hK]; exact os_add) ha hb
theorem me_sub (ha : PE X a (rdE c ma)) (hb : PE X b (rdE c mb)) : PE X (.BinOp a .Sub b pos) (rdE c (mOp fSub ma mb)) := me_op op_sub os_sub ha hb
theorem me_mul (ha : PE X a (rdE c ma)) (hb : PE X b (rdE c mb)) (hK : c.K = X.K := by rfl) : PE X (.BinOp a .Mult b pos) (rdE c (mOp fMul ma mb)) := me_op op_mulM (by rw [← hK]; exact os_mul) ha hb
theorem me_div (ha : PE X a (rdE c ma)) (hb : PE X b (rdE c mb)) : PE X (.BinOp a .FloorDiv b pos) (rdE c (mOp fDiv ma mb)) := me_op op_divM os_div ha hb
theorem me_mod (ha : PE X a (rdE c ma)) (hb : PE X b (rdE c mb)) : PE X (.BinOp a .Mod b pos) (rdE c (mOp fMod ma mb)) := me_op op_modN os_mod ha hb
theorem me_pow (ha : PE X a (rdE c ma)) (hb : PE X b (rdE c mb)) : PE X (.BinOp a .Pow b pos) (rdE c (mOp fPow ma mb)) := me_op op_pow os_pow ha hb
end
end
end Tm
set_option Elab.async false
set_option linter.all false
set_option maxRecDepth 100000
set_option maxHeartbeats 2000000
namespace Tm
open PySem L2
open Evl (Ex ex_rd ex_l ex_t)
section
variable {X : Cx} {c : Ct}
abbrev MG := MV → Env → Option Env
def okG (c : Ct) (F Hk : Hp) (bp : List (Nat × Addr)) (Q : St → Hp → Prop) : Option Env → Prop
  | some ρ' => ∀ Hk' H' σ', Ex Hk Hk' → RS c.K F Hk' H' bp σ' ρ' → Q σ' H'
  | none => False
def rdG (c : Ct) (m : MG) : TG := fun v σ H Q => ∃ F Hk bp ρ x, At c F Hk H bp σ ρ ∧ RV c.K Hk x v ∧ okG c F Hk bp Q (m x ρ)
def rdGs (c : Ct) (m : List MV → Env → Option Env) : TGs := fun vs σ H Q => ∃ F Hk bp ρ xs, At c F Hk H bp σ ρ ∧ RVs c.K Hk xs vs ∧ okG c F Hk bp Q (m xs ρ)
theorem PGw {e : Expr} {t t' : TG} (h : PG X e t) (w : ∀ v σ H Q, t' v σ H Q → t v σ H Q) : PG X e t' := ⟨fun pins s σ H v u Q I r q => h.run pins s σ H v u Q I r (w v σ H Q q)⟩
theorem PGsw {e : List Expr} {t t' : TGs} (h : PGs X e t) (w : ∀ v σ H Q, t' v σ H Q → t v σ H Q) : PGs X e t' := ⟨fun pins s σ H v u Q I r q => h.run pins s σ H v u Q I r (w v σ H Q q)⟩
def gSet (i : Nat) : MG := fun x ρ => if i < ρ.length then some (ρ.set i (some x)) else none
theorem nb {bp : List (Nat × Addr)} {bs : List Nat} {i : Nat} (e : bp.map (·.1) = bs) (h : bs.contains i = false) : ∀ q ∈ bp, q.1 ≠ i := fun q hq z => by
  have m : i ∈ bs := by rw [← e, ← z]; exact List.mem_map.mpr ⟨q, hq, rfl⟩
  rw [List.contains_eq_mem] at h
  simp [m] at h
theorem rd_gname {i : Nat} (hb : c.bs.contains i = false) {v : V} {σ : St} {H : Hp} {Q : St → Hp → Prop} (h : rdG c (gSet i) v σ H Q) : gName i v σ H Q := by
  obtain ⟨F, Hk, bp, ρ, y, S, r, h⟩ := h
  unfold gSet at h
  split at h
  · rename_i hl
    exact h _ _ _ (Ex.refl _) (S.1.set hl r (nb S.2.1 hb))
  · exact h.elim
theorem mg_name {i : Nat} {x : Str} {pos : Pos} (hN : X.N.Nodup) (hi : X.N[i]? = some x) (hx : Loc X.env.scope x) (hb : c.bs.contains i = false := by rfl) (hf : X.fn x = true ∨ X.env.scope.names.lookup x = some .local := by first | exact .inl rfl | exact .inr rfl | assumption) : PG X (.Name x pos) (rdG c (gSet i)) :=
  PGw (pg_name hN hi hx hf) fun v σ H Q h => rd_gname hb h
def gsNil : List MV → Env → Option Env := fun xs ρ => match xs with | [] => some ρ | _ => none
def gsCons (a : MG) (b : List MV → Env → Option Env) : List MV → Env → Option Env := fun xs ρ => match xs with
  | x :: r => (match a x ρ with | some ρ1 => b r ρ1 | none => none)
  | [] => none
def gTp (n : Nat) (b : List MV → Env → Option Env) : MG := fun x ρ => match x with
  | .tup xs => if xs.length = n then b xs ρ else none
  | .lst xs => if xs.length = n then b xs ρ else none
  | _ => none
theorem PGor {e : Expr} {t t' : TG} (h : PG X e t) (g : PG X e t') : PG X e fun v σ H Q => t v σ H Q ∨ t' v σ H Q := ⟨fun pins s σ H v u Q I r q => by
  rcases q with q | q
  · exact h.run pins s σ H v u Q I r q
  · exact g.run pins s σ H v u Q I r q⟩
theorem mgs_nil : PGs X [] (rdGs c gsNil) := PGsw pgs_nil fun vs σ H Q ⟨F, Hk, bp, ρ, xs, S, r, h⟩ => by
  cases xs with
  | nil => exact ⟨RVs.nil.mp r, h _ _ _ (Ex.refl _) S.1⟩
  | cons x xs => exact h.elim
theorem mgs_cons {e : Expr} {es : List Expr} {a : MG} {b : List MV → Env → Option Env} (h1 : PG X e (rdG c a)) (h2 : PGs X es (rdGs c b)) (hs : (assignEach (e :: es) X.env).map (·.2) = assign e X.env :: (assignEach es X.env).map (·.2) := by rfl) : PGs X (e :: es) (rdGs c (gsCons a b)) := PGsw (pgs_cons h1 h2 hs) fun vs σ H Q ⟨F, Hk, bp, ρ, xs, S, r, h⟩ => by
  cases xs with
  | nil => exact h.elim
  | cons x xs =>
    obtain ⟨v, us, rfl, r1, r2⟩ := RVs.cons.mp r
    refine ⟨v, us, rfl, F, Hk, bp, ρ, x, S, r1, ?_⟩
    have h : okG c F Hk bp Q (match a x ρ with | some ρ1 => b xs ρ1 | none => none) := h
    cases e : a x ρ with
    | none => rw [e] at h; exact h
    | some ρ1 =>
      rw [e] at h
      intro Hk1 H1 σ1 x1 S1
      refine ⟨F, Hk1, bp, ρ1, xs, ⟨S1, S.2⟩, r2.mono x1, ?_⟩
      have h : okG c F Hk bp Q (b xs ρ1) := h
      cases e2 : b xs ρ1 with
      | none => rw [e2] at h; exact h
      | some ρ2 => rw [e2] at h; exact fun Hk2 H2 σ2 x2 => h Hk2 H2 σ2 (x1.trans x2)
theorem mg_tup {es : List Expr} {k : Nat} {b : List MV → Env → Option Env} {n : Nat} {pos : Pos} (hc : X.calm = true) (h : PGs X es (rdGs c b)) (hK : c.K = X.K := by rfl)
    (hn : (assignEach es X.env).length = n := by rfl) (hst : (assignEach es X.env).findIdx? (·.1) = none := by rfl) : PG X (.Tuple es k pos) (rdG c (gTp n b)) := PGw (PGor (pg_tup hc h hn hst) (pg_unl hc h hn hst)) fun v σ H Q ⟨F, Hk, bp, ρ, x, S, r, h⟩ => by
  unfold gTp at h
  split at h
  · split at h
    · rename_i xs hl
      obtain ⟨a, vs, rfl, h1, s1⟩ := RV.tup.mp r
      rw [← hK]
      exact .inl ⟨a, vs, rfl, ex_t S.1.ex h1, by rw [s1.length]; exact hl, F, Hk, bp, ρ, xs, S, s1, h⟩
    · exact h.elim
  · split at h
    · rename_i xs hl
      obtain ⟨a, vs, rfl, h1, s1⟩ := RV.lst.mp r
      rw [← hK]
      exact .inr ⟨a, vs, rfl, SqL.of (S.1.ex _ _ h1), by rw [s1.length]; exact hl, F, Hk, bp, ρ, xs, S, s1, h⟩
    · exact h.elim
  · exact h.elim
def mAsg (a : ME) (g : MG) : MS := fun ρ => (a ρ).bind fun x ρ1 => match g x ρ1 with | some ρ2 => .ok (.nx, ρ2) | none => .stuck
theorem rd_asg {a : ME} {g : MG} {D : Ends} {σ : St} {H : Hp} (h : rdS c (mAsg a g) D σ H) : tAsg (rdE c a) (rdG c g) D σ H := by
  obtain ⟨F, Hk, bp, ρ, S, h⟩ := h
  refine rdw (bE (postS (σ := σ)) S h) fun v H1 ⟨Hk1, x, ρ1, x1, S1, r1, h1⟩ => ⟨F, Hk1, bp, ρ1, x, S1, r1, ?_⟩
  have h1 : okS c F Hk1 bp D (match g x ρ1 with | some ρ2 => .ok (.nx, ρ2) | none => .stuck) := h1
  cases e : g x ρ1 with
  | none => rw [e] at h1; exact h1
  | some ρ2 => rw [e] at h1; exact h1
theorem ms_asg {tg e : Expr} {a : ME} {g : MG} {pos : Pos} (he : PE X e (rdE c a)) (hg : PG X tg (rdG c g)) (hs : swapsWithSole [tg] e pos.line X.env = pure false := by rfl) (hw : swappedStores [tg] e X.env = pure none := by rfl)
    (h1 : (assignEach [tg] X.env).map (·.2) = [assign tg X.env] := by rfl) : PS X (.Assign [tg] e pos) (rdS c (mAsg a g)) := PSw (ps_asg he hg hs hw h1) fun _ _ _ h => rd_asg h
theorem rd_set {i : Nat} (hb : c.bs.contains i = false) {a : ME} {D : Ends} {σ : St} {H : Hp} (h : rdS c (mAsg a (gSet i)) D σ H) : tAsg (rdE c a) (gName i) D σ H := rdw (rd_asg h) fun _ _ q => rd_gname hb q
theorem ms_set {i : Nat} {x : Str} {e : Expr} {a : ME} {pos pos' : Pos} (hN : X.N.Nodup) (hi : X.N[i]? = some x) (hx : Loc X.env.scope x) (he : PE X e (rdE c a)) (hb : c.bs.contains i = false := by rfl) (hs : swapsWith e (some (.Name x pos')) pos.line X.env = pure false := by rfl)
    (hf : X.fn x = true ∨ X.env.scope.names.lookup x = some .local := by first | exact .inl rfl | exact .inr rfl | assumption) : PS X (.Assign [.Name x pos'] e pos) (rdS c (mAsg a (gSet i))) := PSw (ps_set hN hi hx he hs hf) fun _ _ _ h => rd_set hb h
def mSetO (i : Nat) (a : ME) : MS := fun ρ => (a ρ).bind fun x ρ1 => if i < ρ1.length then .ok (.nx, ρ1.set i (some x)) else .stuck
theorem rd_setO {i : Nat} {a : ME} {D : Ends} {σ : St} {H : Hp} (hb : c.bs.contains i = false) (h : rdS c (mSetO i a) D σ H) : tAsg (rdO c a) (gName i) D σ H := by
  obtain ⟨F, Hk, bp, ρ, S, h⟩ := h
  refine rdOw (bO (postS (σ := σ)) S h) fun v H1 ⟨Hk1, x, ρ1, x1, S1, h1⟩ => ?_
  split at h1
  · rename_i hl
    refine h1 _ _ _ (Ex.refl _) (S1.take hl fun q hq => ⟨nb S.2.1 hb q hq, ?_⟩)
    have l1 : σ.length = ρ1.length := by have := S1.len; simpa using this
    rw [← l1]
    exact lt_get (S.1.bor q hq)
  · exact h1.elim
theorem ms_setO {i : Nat} {x : Str} {e : Expr} {a : ME} {pos pos' : Pos} (hN : X.N.Nodup) (hi : X.N[i]? = some x) (hx : Loc X.env.scope x) (he : PE X e (rdO c a)) (hb : c.bs.contains i = false := by rfl) (hs : swapsWith e (some (.Name x pos')) pos.line X.env = pure false := by rfl)
    (hf : X.fn x = true ∨ X.env.scope.names.lookup x = some .local := by first | exact .inl rfl | exact .inr rfl | assumption) : PS X (.Assign [.Name x pos'] e pos) (rdS c (mSetO i a)) := PSw (ps_set hN hi hx he hs hf) fun _ _ _ h => rd_setO hb h
def mPass : MS := fun ρ => .ok (.nx, ρ)
def mSeq (a b : MS) : MS := fun ρ => (a ρ).bind fun f ρ1 => match f with | .nx => b ρ1 | f => .ok (f, ρ1)
theorem okS.seq {F Hk : Hp} {bp : List (Nat × Addr)} {D : Ends} {b : MS} (eb : bp.map (·.1) = c.bs ∧ c.J F bp) {r : Res (Fl × Env)} (h : okS c F Hk bp D (r.bind fun f ρ1 => match f with | .nx => b ρ1 | f => .ok (f, ρ1))) : okS c F Hk bp { D with nx := rdS c b D } r := by
  cases r with
  | stuck => exact h
  | exc e ρ => exact h
  | ok q =>
    obtain ⟨f, ρ1⟩ := q
    cases f with
    | nx => exact fun Hk1 H1 σ1 x1 S1 => ⟨F, Hk1, bp, ρ1, ⟨S1, eb⟩, okS.mono x1 h⟩
    | br => exact h
    | ct => exact h
    | rt x => exact h
theorem rd_seq {a b : MS} {D : Ends} {σ : St} {H : Hp} (h : rdS c (mSeq a b) D σ H) : tSeq (rdS c a) (rdS c b) D σ H := by
  obtain ⟨F, Hk, bp, ρ, S, h⟩ := h
  exact ⟨F, Hk, bp, ρ, S, okS.seq S.2 h⟩
theorem mss_nil : PSs X [] (rdS c mPass) := PSsw pss_nil fun D σ H ⟨F, Hk, bp, ρ, S, h⟩ => h _ _ _ (Ex.refl _) S.1
theorem mss_one {st : Stmt} {a : MS} (h : PS X st (rdS c a)) : PSs X [st] (rdS c a) := pss_one h
theorem mss_cons {st : Stmt} {r : List Stmt} {a b : MS} (h : PS X st (rdS c a)) (g : PSs X r (rdS c b)) : PSs X (st :: r) (rdS c (mSeq a b)) := PSsw (pss_cons h g) fun _ _ _ q => rd_seq q
def mIfS (t : MT) (a b : MS) : MS := fun ρ => (t ρ).bind fun x ρ1 => if x then a ρ1 else b ρ1
theorem ms_if {t : Expr} {a b : List Stmt} {mt : MT} {ma mb : MS} {pos : Pos} (ht : PT X t (rdT c mt)) (ha : PSs X a (rdS c ma)) (hb : PSs X b (rdS c mb)) : PS X (.If t a b pos) (rdS c (mIfS mt ma mb)) := PSw (ps_if ht ha hb) fun D σ H ⟨F, Hk, bp, ρ, S, h⟩ => by
  refine rdTw (bT (postS (σ := σ)) S h) fun k H1 ⟨Hk1, ρ1, x1, S1, h1⟩ => ?_
  cases k with
  | true => rw [if_pos rfl] at h1 ⊢; exact ⟨F, Hk1, bp, ρ1, S1, h1⟩
  | false => rw [if_neg (by decide)] at h1 ⊢; exact ⟨F, Hk1, bp, ρ1, S1, h1⟩
def mRet (a : ME) : MS := fun ρ => (a ρ).bind fun x ρ1 => .ok (.rt x, ρ1)
theorem ms_ret {e : Expr} {a : ME} {pos : Pos} (h : PE X e (rdE c a)) : PS X (.Return (some e) pos) (rdS c (mRet a)) := PSw (ps_ret h) fun D σ H ⟨F, Hk, bp, ρ, S, h⟩ =>
  rdw (bE (postS (σ := σ)) S h) fun v H1 ⟨Hk1, x, ρ1, x1, S1, r1, h1⟩ => h1 _ _ _ _ (Ex.refl _) (fun q hq => lt_get (S.1.bor q hq)) (S1.1.push r1)
theorem ms_retO {e : Expr} {a : ME} {pos : Pos} (h : PE X e (rdO c a)) : PS X (.Return (some e) pos) (rdS c (mRet a)) := PSw (ps_ret h) fun D σ H ⟨F, Hk, bp, ρ, S, h⟩ =>
  rdOw (bO (postS (σ := σ)) S h) fun v H1 ⟨Hk1, x, ρ1, x1, S1, h1⟩ => h1 _ _ _ _ (Ex.refl _) (fun q hq => lt_get (S.1.bor q hq)) S1
def mDrop (a : ME) : MS := fun ρ => (a ρ).bind fun _ ρ1 => .ok (.nx, ρ1)
theorem ms_expr {e : Expr} {a : ME} {pos : Pos} (h : PE X e (rdE c a)) (hs : swapsWith e none pos.line X.env = pure false := by rfl) : PS X (.Expr e pos) (rdS c (mDrop a)) := PSw (ps_expr h hs) fun D σ H ⟨F, Hk, bp, ρ, S, h⟩ =>
  rdw (bE (postS (σ := σ)) S h) fun v H1 ⟨Hk1, x, ρ1, x1, S1, r1, h1⟩ => h1 _ _ _ (Ex.refl _) S1.1
def mMove (i : Nat) : ME := fun ρ => match ρ[i]? with
  | some (some (.obj _ _)) => .stuck
  | some (some x) => .ok (x, ρ.set i none)
  | _ => .stuck
def mAug (f : MV → MV → Option MV) (i : Nat) (a : ME) : MS := fun ρ => match ρ[i]? with
  | some (some x) => if flatM x then (a ρ).bind fun y ρ1 => (match f x y with | some z => if decide (i < ρ1.length) && flatM z then .ok (.nx, ρ1.set i (some z)) else .stuck | none => .stuck) else .stuck
  | _ => .stuck
theorem rd_move {i : Nat} (hb : c.bs.contains i = false) {σ : St} {H : Hp} {Q : VK} (h : rdO c (mMove i) σ H Q) : tVar i σ H Q := by
  obtain ⟨F, Hk, bp, ρ, S, h⟩ := h
  unfold mMove at h
  split at h
  · exact h.elim
  · rename_i x n hx
    obtain ⟨ow, s⟩ := S.1.ow
    obtain ⟨v, ev, ov⟩ := s.s i x hx
    have li := lt_get hx
    refine ⟨v, ev, h Hk H v (Ex.refl _) ?_⟩
    refine ⟨by simp [S.1.len], S.1.ex, S.1.fr, S.1.frk, ⟨put (put ow i []) ρ.length (ow i), ?_⟩, S.1.bor_app _⟩
    have nl : i ≠ ρ.length := Nat.ne_of_lt li
    have mem : ∀ j a, a ∈ put (put ow i []) ρ.length (ow i) j → (j = ρ.length ∧ a ∈ ow i) ∨ (j ≠ i ∧ j < ρ.length ∧ a ∈ ow j) := fun j a h => by
      by_cases e : j = ρ.length
      · rw [e, put_same] at h; exact .inl ⟨e, h⟩
      · rw [put_ne e] at h
        by_cases e2 : j = i
        · rw [e2, put_same] at h; cases h
        · rw [put_ne e2] at h
          exact .inr ⟨e2, s.w j (by intro z; rw [z] at h; cases h), h⟩
    refine ⟨fun j y hj => ?_, fun j a hj => ?_, fun j hj => ?_, fun j k a hjk hj hk => ?_⟩
    · rcases app_get hj with ⟨e1, e2⟩ | ⟨lt, e2⟩
      · cases e2
        rw [List.length_set] at e1
        refine ⟨v, by rw [e1, ← S.1.len]; simp, ?_⟩
        rw [e1, put_same]; exact ov
      · rcases set_get e2 with ⟨_, e3⟩ | ⟨ne, e3⟩
        · cases e3
        · obtain ⟨w, w1, w2⟩ := s.s j y e3
          have lj := lt_get e3
          exact ⟨w, by rw [List.getElem?_append_left (by rw [S.1.len]; exact lj)]; exact w1, by rw [put_ne (Nat.ne_of_lt lj), put_ne ne]; exact w2⟩
    · rcases mem j a hj with ⟨_, m⟩ | ⟨_, _, m⟩
      · exact s.f i a m
      · exact s.f j a m
    · cases e : put (put ow i []) ρ.length (ow i) j with
      | nil => exact (hj e).elim
      | cons a r =>
        rcases mem j a (by rw [e]; simp) with ⟨e, _⟩ | ⟨_, l, _⟩
        · rw [e]; simp
        · simp; omega
    · rcases mem j a hj with ⟨e1, m⟩ | ⟨e1, l1, m⟩ <;> rcases mem k a hk with ⟨e2, m2⟩ | ⟨e2, l2, m2⟩
      · exact hjk (e1.trans e2.symm)
      · exact s.d i k a (Ne.symm e2) m m2
      · exact s.d j i a e1 m m2
      · exact s.d j k a hjk m m2
  · exact h.elim
theorem mo_var {i : Nat} {x : Str} {pos : Pos} (hN : X.N[i]? = some x) (hv : Vis X.env.scope x) (hb : c.bs.contains i = false := by rfl) (hd : (x == ("__debug__" : Str)) = false := by decide) (hcd : (x == ("__classdict__" : Str)) = false := by decide) : PE X (.Name x pos) (rdO c (mMove i)) :=
  PEw (pe_var hN hv hd hcd) fun _ _ _ h => rd_move hb h
def ipM (f : MV → MV → Option MV) (t : TIp) (K : PySem.W.Frag) : Prop := ∀ (x y z : MV) (v w : V) (Hk H : Hp) (Q : VK), f x y = some z → flatM x = true → RV K Hk x v → RV K Hk y w → (∀ u, RV K Hk z u → Q u H) → t v w H Q
theorem im_add {K : PySem.W.Frag} : ipM (fun x y => match x, y with | .int i, .int j => some (.int (i + j)) | _, _ => none) (ipI fun i j => i + j) K := by
  intro x y z v w Hk H Q e _ r1 r2 q
  dsimp only at e
  split at e
  · cases e; exact ⟨_, _, RV.int.mp r1, RV.int.mp r2, q _ (RV.int.mpr rfl)⟩
  · cases e
theorem im_sub {K : PySem.W.Frag} : ipM (fun x y => match x, y with | .int i, .int j => some (.int (i - j)) | _, _ => none) (ipI fun i j => i - j) K := by
  intro x y z v w Hk H Q e _ r1 r2 q
  dsimp only at e
  split at e
  · cases e; exact ⟨_, _, RV.int.mp r1, RV.int.mp r2, q _ (RV.int.mpr rfl)⟩
  · cases e
def fAddI : MV → MV → Option MV := fun x y => match x, y with | .int i, .int j => some (.int (i + j)) | _, _ => none
def fSubI : MV → MV → Option MV := fun x y => match x, y with | .int i, .int j => some (.int (i - j)) | _, _ => none
theorem rd_aug {f : MV → MV → Option MV} {t : TIp} (o : ipM f t c.K) {i : Nat} (hb : c.bs.contains i = false) {a : ME} {D : Ends} {σ : St} {H : Hp} (h : rdS c (mAug f i a) D σ H) : tAug i (rdE c a) t D σ H := by
  obtain ⟨F, Hk, bp, ρ, S, h⟩ := h
  unfold mAug at h
  split at h
  · rename_i x hx
    split at h
    · rename_i hf
      have px : x.per = true := by cases x <;> first | rfl | cases hf
      obtain ⟨v, ev, rv⟩ := S.1.get hx px
      refine ⟨v, ev, ?_⟩
      refine rdw (bE (postS (σ := σ)) S h) fun w H1 ⟨Hk1, y, ρ1, x1, S1, r1, h1⟩ => ?_
      split at h1
      · rename_i z ez
        split at h1
        · rename_i hl
          rw [Bool.and_eq_true] at hl
          refine o x y z v w Hk1 H1 _ ez hf (flat_rv hf rv) r1 fun u ru => ?_
          exact h1 _ _ _ (Ex.refl _) (S1.1.set (of_decide_eq_true hl.1) ru (nb S.2.1 hb))
        · exact h1.elim
      · exact h1.elim
    · exact h.elim
  · exact h.elim
theorem ms_augAdd {i : Nat} {x : Str} {e : Expr} {a : ME} {pos pos' : Pos} (hN : X.N.Nodup) (hi : X.N[i]? = some x) (hx : Loc X.env.scope x) (he : PE X e (rdE c a)) (hb : c.bs.contains i = false := by rfl)
    (hf : X.fn x = true ∨ X.env.scope.names.lookup x = some .local := by first | exact .inl rfl | exact .inr rfl | assumption) : PS X (.AugAssign (.Name x pos') .Add e pos) (rdS c (mAug fAddI i a)) := PSw (ps_aug hN hi hx he ip_add hf) fun _ _ _ h => rd_aug im_add hb h
theorem ms_augSub {i : Nat} {x : Str} {e : Expr} {a : ME} {pos pos' : Pos} (hN : X.N.Nodup) (hi : X.N[i]? = some x) (hx : Loc X.env.scope x) (he : PE X e (rdE c a)) (hb : c.bs.contains i = false := by rfl)
    (hf : X.fn x = true ∨ X.env.scope.names.lookup x = some .local := by first | exact .inl rfl | exact .inr rfl | assumption) : PS X (.AugAssign (.Name x pos') .Sub e pos) (rdS c (mAug fSubI i a)) := PSw (ps_aug hN hi hx he ip_sub hf) fun _ _ _ h => rd_aug im_sub hb h
end
end Tm
set_option Elab.async false
set_option linter.all false
set_option maxRecDepth 100000
set_option maxHeartbeats 2000000
namespace Tm
open PySem L2 PySem.Spec PyProof.Rows
structure ZSrc (P : Program) (w : World) (K : PySem.W.Frag) (it : Addr) (fp : List Addr) (S : Hp → List V → Prop) (tn : Nat → Heap → Prop) : Prop where
  obj : ∀ i h, tn i h → ∃ o, h.get? it = some o ∧ ∀ v, o.data ≠ .cell v
  keep : ∀ i h h', tn i h → (∀ o, h.get? it = some o → h'.get? it = some o) → tn i h'
  inj : ∀ (X : Cx), X.K = K → ∀ pins (s : Shared) σ H xs ys, Inv X pins σ H s → S H xs → S H ys → xs = ys
  draw : ∀ (X : Cx), X.prog = P → X.w = w → X.K = K → X.calm = true → ∀ pins (s : Shared) σ H xs i, Inv X pins σ H s → S H xs → tn i s.heap →
    ∃ (Y : Nat → Value → Prop) (St : Nat → Heap → Prop), Draws P w X.A.in1 it fp xs.length Y St ∧ St i s.heap ∧ (∀ j u, Y j u → ∃ x, xs[j]? = some x ∧ RelV x u) ∧ ∀ j h, St j h → tn j h
def ItzG (S1 S2 : Hp → List V → Prop) : It :=
  ⟨fun i H => ∃ (l1 l2 : List V) (x y : V), S1 H l1 ∧ S2 H l2 ∧ l1[i]? = some x ∧ l2[i]? = some y,
    fun i H v H' => ∃ p x y, v = .ref p ∧ H p = none ∧ H' = upd H p (.tup [x, y]) ∧ (∀ l, S1 H l → l[i]? = some x) ∧ ∀ l, S2 H l → l[i]? = some y,
    fun i H => ∃ l1 l2 : List V, S1 H l1 ∧ S2 H l2 ∧ (i = l1.length ∧ l1.length ≤ l2.length ∨ i = l2.length ∧ l2.length ≤ l1.length)⟩
section
variable {P : Program} {w : World} {K : PySem.W.Frag} {elts : List Expr} {kk : Nat} {tpos : Pos} {z TI TO i1 i2 : Addr} {f1 f2 : List Addr} {S1 S2 : Hp → List V → Prop} {tn1 tn2 : Nat → Heap → Prop}
theorem turn_zipG (D : ZipSep2 z TI TO i1 i2 f1 f2) (A1 : ZSrc P w K i1 f1 S1 tn1) (A2 : ZSrc P w K i2 f2 S2 tn2) :
    Turn P w K (.Tuple elts kk tpos) (ItzG S1 S2) [z, TI, TO, i1, i2] z (fun i h => (IsZip h z TI TO .none ∧ IsTupOf2 h TI (.ref i1) (.ref i2) ∧ ∃ x y, IsTupOf2 h TO x y) ∧ tn1 i h ∧ tn2 i h) where
  mem := List.mem_cons_self ..
  obj := by
    rintro i h ⟨⟨gz, gT, p0, q0, gO⟩, t1, t2⟩ c hc
    simp only [List.mem_cons, List.not_mem_nil, or_false] at hc
    rcases hc with rfl | rfl | rfl | rfl | rfl
    · exact ⟨_, gz, by intro v e; cases e⟩
    · exact ⟨_, gT, by intro v e; cases e⟩
    · exact ⟨_, gO, by intro v e; cases e⟩
    · exact A1.obj i h t1
    · exact A2.obj i h t2
  keep := by
    rintro i h h' ⟨⟨gz, gT, p0, q0, gO⟩, t1, t2⟩ hk
    exact ⟨⟨hk z (by simp) _ gz, hk TI (by simp) _ gT, p0, q0, hk TO (by simp) _ gO⟩, A1.keep i h h' t1 (hk i1 (by simp)), A2.keep i h h' t2 (hk i2 (by simp))⟩
  item := by
    intro X hP hw hK hc i pins s σ H E I hf st hg
    subst hP; subst hw; subst hK
    obtain ⟨⟨gz, gT, p0, q0, gO⟩, t1, t2⟩ := st
    obtain ⟨l1, l2, x, y, b1, b2, g1, g2⟩ := hg
    obtain ⟨Y1, St1, d1, e1, r1, k1⟩ := A1.draw X rfl rfl rfl hc pins s σ H l1 i I b1 t1
    obtain ⟨Y2, St2, d2, e2, r2, k2⟩ := A2.draw X rfl rfl rfl hc pins s σ H l2 i I b2 t2
    have m1 : i < l1.length := (List.getElem?_eq_some_iff.mp g1).1
    have m2 : i < l2.length := (List.getElem?_eq_some_iff.mp g2).1
    have zlt : z < s.heap.objs.size := Heap.lt_size gz
    refine wpAny_pyNext_zipD2_item D d1 d2 gz gT gO e1 e2 m1 m2 fun u1 u2 hp tk y1 y2 gz' gO' e1' e2' gN sz hk => ⟨_, rfl, ?_⟩
    obtain ⟨x', a1, v1⟩ := r1 i u1 y1
    obtain ⟨y', a2, v2⟩ := r2 i u2 y2
    rw [g1] at a1
    rw [g2] at a2
    cases a1
    cases a2
    refine wpAny_letOwnedTupleGo_zip (s := { s with heap := hp, toks := tk }) gz' fun hq gq sb => ?_
    have keep : ∀ c o, c ∉ [z, TI, TO, i1, i2] → s.heap.get? c = some o → hq.get? c = some o := by
      intro c o nc ec
      simp only [List.mem_cons, List.not_mem_nil, or_false, not_or] at nc
      exact (sb.2 c nc.1).trans (hk c o nc.1 nc.2.2.1 nc.2.2.2.1 nc.2.2.2.2 ec)
    have gT2 : IsTupOf2 hq s.heap.objs.size u1 u2 := (sb.2 _ (Nat.ne_of_gt zlt)).trans gN
    have new : ObjOk X.prog X.w (upd H s.heap.objs.size (.tup [x, y])) hq s.heap.objs.size (.tup [x, y]) :=
      ⟨by show 2 ≤ sizeLine; decide, [u1, u2], .cons v1 (.cons v2 .nil), ⟨_, gT2, rfl, _, rfl⟩⟩
    have I1 : Inv X pins σ (upd H s.heap.objs.size (.tup [x, y])) { s with heap := hq, toks := tk } := Inv.turnedNew I keep hf (Nat.le_refl _) new
    refine ⟨.ref s.heap.objs.size, _, I1, rfl, ⟨_, x, y, rfl, I.hok.fresh (Nat.le_refl _), rfl, fun l hl => ?_, fun l hl => ?_⟩, ⟨⟨gq, ?_, u1, u2, ?_⟩, ?_, ?_⟩, ?_⟩
    · rw [A1.inj X rfl pins s σ H l l1 I hl b1]; exact g1
    · rw [A2.inj X rfl pins s σ H l l2 I hl b2]; exact g2
    · exact (sb.2 TI D.TIz).trans (hk TI _ D.TIz D.TITO D.TIi1 D.TIi2 gT)
    · exact (sb.2 TO D.TOz).trans gO'
    · exact A1.keep _ hp hq (k1 _ _ e1') fun o e => (sb.2 i1 (Ne.symm D.zi1)).trans e
    · exact A2.keep _ hp hq (k2 _ _ e2') fun o e => (sb.2 i2 (Ne.symm D.zi2)).trans e
    · intro c hcm
      have clt : c < s.heap.objs.size := by
        simp only [List.mem_cons, List.not_mem_nil, or_false] at hcm
        rcases hcm with rfl | rfl | rfl | rfl | rfl
        · exact zlt
        · exact Heap.lt_size gT
        · exact Heap.lt_size gO
        · obtain ⟨o, eo, _⟩ := A1.obj i s.heap t1
          exact Heap.lt_size eo
        · obtain ⟨o, eo, _⟩ := A2.obj i s.heap t2
          exact Heap.lt_size eo
      rw [upd_ne (Nat.ne_of_lt clt)]
      exact (hf c hcm).1
  done := by
    intro X hP hw hK hc i pins s σ H E I hf st hg
    subst hP; subst hw; subst hK
    obtain ⟨⟨gz, gT, p0, q0, gO⟩, t1, t2⟩ := st
    obtain ⟨l1, l2, b1, b2, hend⟩ := hg
    obtain ⟨Y1, St1, d1, e1, r1, k1⟩ := A1.draw X rfl rfl rfl hc pins s σ H l1 i I b1 t1
    obtain ⟨Y2, St2, d2, e2, r2, k2⟩ := A2.draw X rfl rfl rfl hc pins s σ H l2 i I b2 t2
    refine wpAny_pyNext_zipD2_end D d1 d2 gz gT gO e1 e2 (by omega) (by omega) (by omega) fun hp tk hk => ⟨rfl, Inv.turnedL I (fun c o nc ec => ?_) hf⟩
    simp only [List.mem_cons, List.not_mem_nil, or_false, not_or] at nc
    exact hk c o nc.1 nc.2.2.1 nc.2.2.2.1 nc.2.2.2.2 ec
  self := fun A i s Q E st h => wpAny_pyIter_zip st.1.1 h
end
section
variable {P : Program} {w : World} {K : PySem.W.Frag}
theorem vals_back {xs : List V} {us : List Value} {j : Nat} {u : Value} (r : Vals xs us) (h : us[j]? = some u) : ∃ x, xs[j]? = some x ∧ RelV x u := by
  have lt : j < xs.length := by rw [r.length]; exact (List.getElem?_eq_some_iff.mp h).1
  obtain ⟨u', h1, h2⟩ := r.get (List.getElem?_eq_getElem lt)
  rw [h] at h1
  cases h1
  exact ⟨_, List.getElem?_eq_getElem lt, h2⟩
theorem zsrc_l {it a : Addr} (ne : a ≠ it) : ZSrc P w K it [it, a] (fun H xs => SqL K H a xs) (fun i h => h.IsListIter it a i) where
  obj := fun i h ⟨o, e, _, d⟩ => ⟨o, e, by intro v q; rw [d] at q; cases q⟩
  keep := fun i h h' t k => t.at k
  inj := fun X hK pins s σ H xs ys I h1 h2 => by subst hK; exact I.list_inj h1 h2
  draw := fun X hP hw hK hc pins s σ H xs i I h t => by
    subst hP; subst hw; subst hK
    obtain ⟨its, rv, p, _⟩ := I.list h
    have D := Draws.list (prog := X.prog) (w := X.w) (show X.A.in1.handled = none from I.ok.hd hc) it a ne its.toArray
    rw [show its.toArray.size = xs.length by rw [rv.length]; rfl] at D
    exact ⟨_, _, D, ⟨t, p.isList⟩, fun j u hu => vals_back rv (by simpa using hu), fun j h q => q.1⟩
theorem zsrc_t {it a : Addr} (ne : a ≠ it) : ZSrc P w K it [it, a] (fun H xs => SqT K H a xs) (fun i h => h.IsTupleIter it a i) where
  obj := fun i h ⟨o, e, _, d⟩ => ⟨o, e, by intro v q; rw [d] at q; cases q⟩
  keep := fun i h h' t k => t.at k
  inj := fun X hK pins s σ H xs ys I h1 h2 => by subst hK; exact I.tuple_inj h1 h2
  draw := fun X hP hw hK hc pins s σ H xs i I h t => by
    subst hP; subst hw; subst hK
    obtain ⟨its, rv, p, _⟩ := I.tuple h
    have D := Draws.tuple (prog := X.prog) (w := X.w) (show X.A.in1.handled = none from I.ok.hd hc) it a ne its.toArray
    rw [show its.toArray.size = xs.length by rw [rv.length]; rfl] at D
    exact ⟨_, _, D, ⟨t, p⟩, fun j u hu => vals_back rv (by simpa using hu), fun j h q => q.1⟩
def signsV (x : Str) : List V := x.cps.toList.map fun c => V.str ⟨#[c]⟩
theorem zsrc_s {it : Addr} {x : Str} {tk : Tok} : ZSrc P w K it [it] (fun _ xs => xs = signsV x) (fun i h => h.IsStrIter it (strIterType x) x tk i) where
  obj := fun i h ⟨o, e, _, d⟩ => ⟨o, e, by intro v q; rw [d] at q; cases q⟩
  keep := fun i h h' ⟨o, e, r⟩ k => ⟨o, k o e, r⟩
  inj := fun X hK pins s σ H xs ys I h1 h2 => by rw [h1, h2]
  draw := fun X hP hw hK hc pins s σ H xs i I h t => by
    subst hP; subst hw; subst h
    have D := Draws.text (prog := X.prog) (w := X.w) (show X.A.in1.handled = none from I.ok.hd hc) it x tk
    rw [show x.cps.size = (signsV x).length by simp [signsV]] at D
    refine ⟨_, _, D, t, fun j u ⟨c, k, h1, h2⟩ => ⟨.str ⟨#[c]⟩, ?_, ?_⟩, fun j h q => q⟩
    · unfold signsV
      rw [List.getElem?_map, Array.getElem?_toList, h1]; rfl
    · rw [h2]; exact ⟨k, rfl⟩
def ZArg (K : PySem.W.Frag) (H : Hp) (v : V) (S : Hp → List V → Prop) : Prop :=
  (∃ a xs, v = .ref a ∧ SqL K H a xs ∧ S = fun H xs => SqL K H a xs) ∨ (∃ a xs, v = .ref a ∧ SqT K H a xs ∧ S = fun H xs => SqT K H a xs) ∨ ∃ x, v = .str x ∧ S = fun _ xs => xs = signsV x
theorem zarg_begins {X : Cx} {pins : List (Addr × Obj)} {σ : L2.St} {H : Hp} {s : Shared} {v : V} {u : Value} {S : Hp → List V → Prop} (I : Inv X pins σ H s) (r : RelV v u) (h : ZArg X.K H v S) :
    ∃ (o : Obj) (Hb : Heap → Prop) (fp : List Addr), Begins u o Hb ∧ Hb s.heap ∧ (∀ b ∈ fp, b < s.heap.objs.size) ∧
      ∀ it, s.heap.objs.size ≤ it → ∃ tn : Nat → Heap → Prop, ZSrc X.prog X.w X.K it (it :: fp) S tn ∧ ∀ h', h'.get? it = some o → tn 0 h' := by
  rcases h with ⟨a, xs, rfl, hq, rfl⟩ | ⟨a, xs, rfl, hq, rfl⟩ | ⟨x, rfl, rfl⟩
  · cases r
    obtain ⟨its, rv, p, _⟩ := I.list hq
    have lt : a < s.heap.objs.size := p.lt
    exact ⟨_, _, [a], begins_list a its.toArray, p.isList, by simpa using lt, fun it hit => ⟨_, zsrc_l (Nat.ne_of_lt (Nat.lt_of_lt_of_le lt hit)), fun h' e => ⟨_, e, rfl, rfl⟩⟩⟩
  · cases r
    obtain ⟨its, rv, p, _⟩ := I.tuple hq
    have lt : a < s.heap.objs.size := by obtain ⟨o, e, _⟩ := id p; exact Heap.lt_size e
    exact ⟨_, _, [a], begins_tuple a its.toArray, p, by simpa using lt, fun it hit => ⟨_, zsrc_t (Nat.ne_of_lt (Nat.lt_of_lt_of_le lt hit)), fun h' e => ⟨_, e, rfl, rfl⟩⟩⟩
  · obtain ⟨tk, rfl⟩ := r
    exact ⟨_, _, [], begins_text x tk, trivial, by simp, fun it hit => ⟨_, zsrc_s, fun h' e => ⟨_, e, rfl, rfl⟩⟩⟩
end
def iZipG (K : PySem.W.Frag) (ta : TA) : TI := fun σ H R => ta σ H fun vs H1 => ∃ v1 v2 S1 S2, vs = [v1, v2] ∧ ZArg K H1 v1 S1 ∧ ZArg K H1 v2 S2 ∧ R (ItzG S1 S2) H1
theorem pi_zipG {X : Cx} {e e2 : Expr} {ta : TA} {p pos tpos : Pos} {elts : List Expr} {kk : Nat} (hg : Gl X "zip") (hm : X.mg "zip" = none) (ha : PA X [e, e2] ta)
    (hs : starEach [e, e2] X.env = (false, eval e X.env) :: starEach [e2] X.env := by rfl) (hpl : (backTo pos (starEach [e2] X.env)).any (·.1) = false := by rfl) :
    PI X (.Tuple elts kk tpos) (.Call (.Name "zip" p) [e, e2] [] pos) (iZipG X.K ta) := ⟨fun pins s σ H R I h => by
  refine Call_ (ld_blt I hg hm PyProof.Rows.boot_zip (PyProof.Rows.callWith_type1 (thn (ha.run pos pins s σ H _ I h) fun us s1 q => ?_) hs hpl))
  obtain ⟨vs, H1, I1, r1, v1, v2, S1, S2, ex, z1, z2, q⟩ := q
  subst ex
  cases r1 with
  | cons ra rr =>
    cases rr with
    | cons rb rr =>
      cases rr
      obtain ⟨o1, Hb1, fp1, B1, b1, lt1, k1⟩ := zarg_begins I1 ra z1
      obtain ⟨o2, Hb2, fp2, B2, b2, lt2, k2⟩ := zarg_begins I1 rb z2
      obtain ⟨tn1, A1, t1⟩ := k1 s1.heap.objs.size (Nat.le_refl _)
      obtain ⟨tn2, A2, t2⟩ := k2 (s1.heap.objs.size + 1) (Nat.le_add_right _ _)
      refine zip_begins2 B1 B2 b1 b2 fun h' gz gT gO g1 g2 sz hk => wpAny_pyIter_zip gz ?_
      have I2 : Inv X pins σ H1 { s1 with heap := h' } := I1.kept (t' := s1.toks) hk
      have new : ∀ c ∈ [s1.heap.objs.size + 4, s1.heap.objs.size + 2, s1.heap.objs.size + 3, s1.heap.objs.size, s1.heap.objs.size + 1], FpOk X pins H1 c := by
        intro c hc
        have le : s1.heap.objs.size ≤ c := by
          simp only [List.mem_cons, List.not_mem_nil, or_false] at hc
          rcases hc with rfl | rfl | rfl | rfl | rfl <;> first | exact Nat.le_refl _ | exact Nat.le_add_right _ _
        exact I1.fpOk le (I1.hok.fresh le)
      exact ⟨_, _, _, _, H1, rfl, I2, turn_zipG (zip_sep2 lt1 lt2) A1 A2, ⟨⟨gz, gT, _, _, gO⟩, t1 h' g1, t2 h' g2⟩, new, q⟩⟩
end Tm
set_option Elab.async false
set_option linter.all false
set_option maxRecDepth 100000
set_option maxHeartbeats 2000000
namespace Tm
open PySem L2
open Evl (Ex ex_rd ex_l ex_t)
structure Walks (K : PySem.W.Frag) (Hk : Hp) (J : It) (items : List MV) : Prop where
  go : ∀ i H, Ex Hk H → i < items.length → J.go i H
  stop : ∀ H, Ex Hk H → J.stop items.length H
  yld : ∀ i H x H', Ex Hk H → i < items.length → J.yld i H x H' → ∃ y, items[i]? = some y ∧ ((H' = H ∧ RV K Hk y x) ∨ ∃ p vs ys, H p = none ∧ H' = upd H p (.tup vs) ∧ x = .ref p ∧ y = .tup ys ∧ RVs K Hk ys vs)
abbrev MI := Env → Res (List MV × Env)
def okI (c : Ct) (F Hk : Hp) (bp : List (Nat × Addr)) (σ : St) (R : It → Hp → Prop) : Res (List MV × Env) → Prop
  | .ok (xs, ρ') => ∀ Hk' H' J, Ex Hk Hk' → RS c.K F Hk' H' bp σ ρ' → Walks c.K Hk' J xs → R J H'
  | .exc e ρ' => Wish c F Hk bp σ e ρ'
  | .stuck => False
theorem okI.mono {c : Ct} {F Hk Hk' : Hp} {bp : List (Nat × Addr)} {σ : St} {Q : It → Hp → Prop} {r : Res (List MV × Env)} (x : Ex Hk Hk') (h : okI c F Hk bp σ Q r) : okI c F Hk' bp σ Q r := by
  cases r with
  | ok a => exact fun Hk2 H2 v x2 => h Hk2 H2 v (x.trans x2)
  | exc e ρ => exact Wish.mono x h
  | stuck => exact h
theorem postI {c : Ct} {F : Hp} {bp : List (Nat × Addr)} {σ : St} {R : It → Hp → Prop} : Post c F bp σ fun Hk r => okI c F Hk bp σ R r := ⟨fun _ _ _ h => h, fun _ h => h, fun _ _ _ x h => okI.mono x h⟩
def rdI (c : Ct) (m : MI) : TI := fun σ H R => ∃ F Hk bp ρ, At c F Hk H bp σ ρ ∧ okI c F Hk bp σ R (m ρ)
theorem PIw {X : Cx} {tg e : Expr} {t t' : TI} (h : PI X tg e t) (w : ∀ σ H R, t' σ H R → t σ H R) : PI X tg e t' := ⟨fun pins s σ H R I q => h.run pins s σ H R I (w σ H R q)⟩
theorem walks_l {K : PySem.W.Frag} {Hk : Hp} {a : Addr} {xs : List MV} {vs : List V} (h : SqL K Hk a vs) (r : RVs K Hk xs vs) : Walks K Hk (Itl K a) xs := by
  refine ⟨fun i H e hi => ?_, fun H e => ⟨vs, ex_l e h, by rw [r.length]; exact Nat.le_refl _⟩, fun i H x H' e hi y => ?_⟩
  · obtain ⟨v, hv, _⟩ := r.get (i := i) (x := xs[i]) (by simp [hi])
    exact ⟨vs, v, ex_l e h, hv⟩
  · obtain ⟨v, hv, rv⟩ := r.get (i := i) (x := xs[i]) (by simp [hi])
    obtain ⟨e1, y⟩ := y
    have := y vs (ex_l e h)
    rw [hv] at this
    cases this
    exact ⟨xs[i], by simp [hi], .inl ⟨e1, rv⟩⟩
theorem walks_t {K : PySem.W.Frag} {Hk : Hp} {a : Addr} {xs : List MV} {vs : List V} (h : SqT K Hk a vs) (r : RVs K Hk xs vs) : Walks K Hk (Itt K a) xs := by
  refine ⟨fun i H e hi => ?_, fun H e => ⟨vs, ex_t e h, by rw [r.length]; exact Nat.le_refl _⟩, fun i H x H' e hi y => ?_⟩
  · obtain ⟨v, hv, _⟩ := r.get (i := i) (x := xs[i]) (by simp [hi])
    exact ⟨vs, v, ex_t e h, hv⟩
  · obtain ⟨v, hv, rv⟩ := r.get (i := i) (x := xs[i]) (by simp [hi])
    obtain ⟨e1, y⟩ := y
    have := y vs (ex_t e h)
    rw [hv] at this
    cases this
    exact ⟨xs[i], by simp [hi], .inl ⟨e1, rv⟩⟩
def rngM (lo c : Int) (n : Nat) : List MV := (List.range n).map fun i => .int (lo + (i : Nat) * c)
theorem rngM_get {lo c : Int} {n i : Nat} (h : i < n) : (rngM lo c n)[i]? = some (.int (lo + (i : Nat) * c)) := by
  unfold rngM
  rw [List.getElem?_map, List.getElem?_range h]; rfl
theorem rngM_len {lo c : Int} {n : Nat} : (rngM lo c n).length = n := by simp [rngM]
theorem walks_r {K : PySem.W.Frag} {Hk : Hp} {lo : Int} {n : Nat} : Walks K Hk (Itr lo n) (rngM lo 1 n) := by
  refine ⟨fun i H e hi => by rw [rngM_len] at hi; exact hi, fun H e => by rw [rngM_len]; exact Nat.le_refl n, fun i H x H' e hi y => ?_⟩
  rw [rngM_len] at hi
  obtain ⟨e1, e2⟩ := y
  exact ⟨_, rngM_get hi, .inl ⟨e1, by rw [e2, Int.mul_one]; exact RV.int.mpr rfl⟩⟩
def signsM (z : Str) : List MV := z.cps.toList.map fun c => .str ⟨#[c]⟩
theorem walks_s {K : PySem.W.Frag} {Hk : Hp} {z : Str} : Walks K Hk (Its z) (signsM z) := by
  have l : (signsM z).length = z.cps.size := by simp [signsM]
  refine ⟨fun i H e hi => by rw [l] at hi; exact hi, fun H e => by rw [l]; exact Nat.le_refl _, fun i H x H' e hi y => ?_⟩
  obtain ⟨e1, ch, e2, e3⟩ := y
  refine ⟨.str ⟨#[ch]⟩, ?_, .inl ⟨e1, by rw [e3]; exact RV.str.mpr rfl⟩⟩
  unfold signsM
  rw [List.getElem?_map, Array.getElem?_toList, e2]; rfl
def zipM (xs ys : List MV) : List MV := List.zipWith (fun x y => .tup [x, y]) xs ys
theorem zipM_get {xs ys : List MV} {i : Nat} {x y : MV} (h1 : xs[i]? = some x) (h2 : ys[i]? = some y) : (zipM xs ys)[i]? = some (.tup [x, y]) := by
  unfold zipM
  rw [List.getElem?_zipWith, h1, h2]
theorem zipM_len {xs ys : List MV} : (zipM xs ys).length = min xs.length ys.length := by simp [zipM]
theorem rvs2 {K : PySem.W.Frag} {H : Hp} {x y : MV} {v w : V} (h : RV K H x v) (g : RV K H y w) : RVs K H [x, y] [v, w] := RVs.cons.mpr ⟨v, _, rfl, h, RVs.cons.mpr ⟨w, _, rfl, g, RVs.nil.mpr rfl⟩⟩
def ZVal (K : PySem.W.Frag) (Hk : Hp) (S : Hp → List V → Prop) (xs : List MV) : Prop := ∃ vs, (∀ H, Ex Hk H → S H vs) ∧ RVs K Hk xs vs
theorem walks_zg {K : PySem.W.Frag} {Hk : Hp} {S1 S2 : Hp → List V → Prop} {xs ys : List MV} (h1 : ZVal K Hk S1 xs) (h2 : ZVal K Hk S2 ys) : Walks K Hk (ItzG S1 S2) (zipM xs ys) := by
  obtain ⟨vs, g1, r1⟩ := h1
  obtain ⟨ws, g2, r2⟩ := h2
  refine ⟨fun i H e hi => ?_, fun H e => ⟨vs, ws, g1 H e, g2 H e, ?_⟩, fun i H x H' e hi y => ?_⟩
  · rw [zipM_len] at hi
    obtain ⟨v, hv, _⟩ := r1.get (i := i) (x := xs[i]) (by first | (simp; done) | (simp; omega))
    obtain ⟨u, hu, _⟩ := r2.get (i := i) (x := ys[i]) (by first | (simp; done) | (simp; omega))
    exact ⟨vs, ws, v, u, g1 H e, g2 H e, hv, hu⟩
  · rw [zipM_len, r1.length, r2.length]; omega
  · rw [zipM_len] at hi
    obtain ⟨v, hv, rv⟩ := r1.get (i := i) (x := xs[i]) (by first | (simp; done) | (simp; omega))
    obtain ⟨u, hu, ru⟩ := r2.get (i := i) (x := ys[i]) (by first | (simp; done) | (simp; omega))
    obtain ⟨p, x1, y1, e1, e2, e3, e4, e5⟩ := y
    have a1 := e4 vs (g1 H e)
    have a2 := e5 ws (g2 H e)
    rw [hv] at a1
    rw [hu] at a2
    cases a1
    cases a2
    exact ⟨_, zipM_get (x := xs[i]) (y := ys[i]) (by first | (simp; done) | (simp; omega)) (by first | (simp; done) | (simp; omega)), .inr ⟨p, _, _, e2, e3, e1, rfl, rvs2 rv ru⟩⟩
section
variable {X : Cx} {c : Ct} {tg : Expr}
def itemsOf : MV → Option (List MV)
  | .lst xs => some xs
  | .tup xs => some xs
  | .scr ns => some (ns.map .int)
  | .str z => some (signsM z)
  | _ => none
def mItV (a : ME) : MI := fun ρ => (a ρ).bind fun x ρ1 => match itemsOf x with | some xs => .ok (xs, ρ1) | none => .stuck
theorem mi_val {e : Expr} {a : ME} (h : PE X e (rdE c a)) (hK : c.K = X.K := by rfl) : PI X tg e (rdI c (mItV a)) := by
  refine ⟨fun pins s σ H R I q => ?_⟩
  obtain ⟨F, Hk, bp, ρ, S, q⟩ := q
  cases ea : a ρ with
  | stuck => unfold mItV at q; rw [ea] at q; exact q.elim
  | exc x ρ1 =>
    have z : rdE c a σ H fun _ _ => False := ⟨F, Hk, bp, ρ, S, by
      unfold mItV at q; rw [ea] at q ⊢; exact q⟩
    exact (pi_str h).run pins s σ H R I (rdw z fun _ _ f => f.elim)
  | ok p =>
    obtain ⟨x, ρ1⟩ := p
    have q' : okI c F Hk bp σ R (match itemsOf x with | some xs => .ok (xs, ρ1) | none => .stuck) := by unfold mItV at q; rw [ea] at q; exact q
    have ok : ∀ Q : VK, (∀ Hk' H' v, Ex Hk Hk' → RS c.K F Hk' H' bp σ ρ1 → RV c.K Hk' x v → Q v H') → rdE c a σ H Q := fun Q k => ⟨F, Hk, bp, ρ, S, by rw [ea]; exact k⟩
    cases x with
    | lst xs =>
      refine (pi_list h).run pins s σ H R I (ok _ fun Hk1 H1 v x1 S1 r1 => ?_)
      obtain ⟨p, vs, rfl, h1, s1⟩ := RV.lst.mp r1
      refine ⟨p, rfl, ⟨vs, SqL.of (S1.ex _ _ h1)⟩, ?_⟩
      rw [← hK]
      exact q' Hk1 H1 _ x1 S1 (walks_l (SqL.of h1) s1)
    | tup xs =>
      refine (pi_tup h).run pins s σ H R I (ok _ fun Hk1 H1 v x1 S1 r1 => ?_)
      obtain ⟨p, vs, rfl, h1, s1⟩ := RV.tup.mp r1
      refine ⟨p, rfl, ⟨vs, by rw [← hK]; exact ex_t S1.ex h1⟩, ?_⟩
      rw [← hK]
      exact q' Hk1 H1 _ x1 S1 (walks_t h1 s1)
    | scr ns =>
      refine (pi_list h).run pins s σ H R I (ok _ fun Hk1 H1 v x1 S1 r1 => ?_)
      obtain ⟨p, rfl, h1⟩ := RV.scr.mp r1
      refine ⟨p, rfl, ⟨_, by rw [← hK]; exact ex_l S1.ex h1⟩, ?_⟩
      rw [← hK]
      exact q' Hk1 H1 _ x1 S1 (walks_l h1 (RVs.ints.mpr rfl))
    | str z =>
      refine (pi_str h).run pins s σ H R I (ok _ fun Hk1 H1 v x1 S1 r1 => ?_)
      exact ⟨z, RV.str.mp r1, q' Hk1 H1 _ x1 S1 walks_s⟩
    | _ => exact q'.elim
def inR (i : Int) : Bool := decide (-(2 ^ 62) ≤ i) && decide (i < 2 ^ 62)
theorem inR_iff {i : Int} : inR i = true ↔ -(2 ^ 62) ≤ i ∧ i < 2 ^ 62 := by unfold inR; simp
def mR1 (a : MA) : MI := fun ρ => (a ρ).bind fun xs ρ1 => match xs with
  | [.int j] => if inR j then .ok (rngM 0 1 j.toNat, ρ1) else .stuck
  | _ => .stuck
theorem rvs_int1 {K : PySem.W.Frag} {H : Hp} {i : Int} {vs : List V} (r : RVs K H [.int i] vs) : vs = [.int i] := (RVs.ints (ns := [i])).mp r
theorem rvs_int2 {K : PySem.W.Frag} {H : Hp} {i j : Int} {vs : List V} (r : RVs K H [.int i, .int j] vs) : vs = [.int i, .int j] := (RVs.ints (ns := [i, j])).mp r
theorem mi_r1 {a : Expr} {m : MA} {p pos : Pos} (hm : X.mg "range" = none) (ha : PA X [a] (rdA c m)) (hg : Gl X "range" := by rfl) (hs : starEach [a] X.env = [(false, eval a X.env)] := by rfl) : PI X tg (.Call (.Name "range" p) [a] [] pos) (rdI c (mR1 m)) :=
  PIw (pi_range1 hg hm ha hs) fun σ H R ⟨F, Hk, bp, ρ, S, h⟩ => rdAw (bA postI S h) fun vs H1 ⟨Hk1, xs, ρ1, x1, S1, r1, h1⟩ => by
    split at h1
    · rename_i j
      split at h1
      · rename_i hj
        have := inR_iff.mp hj
        exact ⟨j, rvs_int1 r1, this.1, this.2, h1 _ _ _ (Ex.refl _) S1.1 walks_r⟩
      · exact h1.elim
    · exact h1.elim
def zitM : MV → Option (List MV)
  | .lst xs => some xs
  | .tup xs => some xs
  | .str z => some (signsM z)
  | _ => none
theorem rv_signs {K : PySem.W.Frag} {Hk : Hp} (z : Str) : RVs K Hk (signsM z) (signsV z) := by
  unfold signsM signsV
  generalize z.cps.toList = l
  induction l with
  | nil => exact RVs.nil.mpr rfl
  | cons c l ih => exact RVs.cons.mpr ⟨_, _, rfl, RV.str.mpr rfl, ih⟩
theorem zit_arg {K : PySem.W.Frag} {Hk H : Hp} {x : MV} {v : V} {xs : List MV} (e : Ex Hk H) (r : RV K Hk x v) (h : zitM x = some xs) : ∃ S, ZArg K H v S ∧ ZVal K Hk S xs := by
  cases x with
  | lst ys =>
    cases h
    obtain ⟨p, vs, rfl, g, s⟩ := RV.lst.mp r
    exact ⟨_, .inl ⟨p, vs, rfl, SqL.of (e _ _ g), rfl⟩, vs, fun H' e' => ex_l e' (SqL.of g), s⟩
  | tup ys =>
    cases h
    obtain ⟨p, vs, rfl, g, s⟩ := RV.tup.mp r
    exact ⟨_, .inr (.inl ⟨p, vs, rfl, ex_t e g, rfl⟩), vs, fun H' e' => ex_t e' g, s⟩
  | str z =>
    cases h
    rw [RV.str.mp r]
    exact ⟨_, .inr (.inr ⟨z, rfl, rfl⟩), signsV z, fun _ _ => rfl, rv_signs z⟩
  | _ => cases h
def mZip (a : MA) : MI := fun ρ => (a ρ).bind fun xs ρ1 => match xs with
  | [x, y] => (match zitM x, zitM y with | some xs, some ys => .ok (zipM xs ys, ρ1) | _, _ => .stuck)
  | _ => .stuck
theorem mi_zip {e e2 : Expr} {m : MA} {p pos tpos : Pos} {elts : List Expr} {kk : Nat} (hm : X.mg "zip" = none) (ha : PA X [e, e2] (rdA c m)) (hg : Gl X "zip" := by rfl) (hK : c.K = X.K := by rfl)
    (hs : starEach [e, e2] X.env = (false, eval e X.env) :: starEach [e2] X.env := by rfl) (hpl : (backTo pos (starEach [e2] X.env)).any (·.1) = false := by rfl) : PI X (.Tuple elts kk tpos) (.Call (.Name "zip" p) [e, e2] [] pos) (rdI c (mZip m)) :=
  PIw (pi_zipG hg hm ha hs hpl) fun σ H R ⟨F, Hk, bp, ρ, S, h⟩ => rdAw (bA postI S h) fun vs H1 ⟨Hk1, xs, ρ1, x1, S1, r1, h1⟩ => by
    split at h1
    · split at h1
      · rename_i z1 z2
        obtain ⟨v, r, rfl, q1, q2⟩ := RVs.cons.mp r1
        obtain ⟨w, r', rfl, q3, q4⟩ := RVs.cons.mp q2
        rw [RVs.nil.mp q4]
        obtain ⟨T1, y1, y2⟩ := zit_arg S1.1.ex q1 z1
        obtain ⟨T2, y3, y4⟩ := zit_arg S1.1.ex q3 z2
        refine ⟨v, w, T1, T2, rfl, hK ▸ y1, hK ▸ y3, ?_⟩
        exact h1 _ _ _ (Ex.refl _) S1.1 (walks_zg y2 y4)
      · exact h1.elim
    · exact h1.elim
def mLoop (g : MG) (b : MS) : List MV → Env → Res (Fl × Env)
  | [], ρ => .ok (.nx, ρ)
  | x :: xs, ρ => match g x ρ with
    | none => .stuck
    | some ρ1 => (b ρ1).bind fun f ρ2 => match f with
      | .nx => mLoop g b xs ρ2
      | .ct => mLoop g b xs ρ2
      | .br => .ok (.nx, ρ2)
      | .rt v => .ok (.rt v, ρ2)
def mFor (i : MI) (g : MG) (b : MS) : MS := fun ρ => (i ρ).bind fun xs ρ1 => mLoop g b xs ρ1
theorem okS.loop {F Hk : Hp} {bp : List (Nat × Addr)} {D : Ends} {g : MG} {b : MS} {xs : List MV} {N : St → Hp → Prop} (hN : ∀ Hk' H' σ' ρ', Ex Hk Hk' → RS c.K F Hk' H' bp σ' ρ' → okS c F Hk' bp D (mLoop g b xs ρ') → N σ' H') {r : Res (Fl × Env)}
    (h : okS c F Hk bp D (r.bind fun f ρ2 => match f with | .nx => mLoop g b xs ρ2 | .ct => mLoop g b xs ρ2 | .br => .ok (.nx, ρ2) | .rt v => .ok (.rt v, ρ2))) : okS c F Hk bp { D with nx := N, ct := N, bk := D.nx } r := by
  cases r with
  | stuck => exact h
  | exc e ρ => exact h
  | ok q =>
    obtain ⟨f, ρ1⟩ := q
    cases f with
    | nx => exact fun Hk1 H1 σ1 x1 S1 => hN Hk1 H1 σ1 ρ1 x1 S1 (okS.mono x1 h)
    | ct => exact fun Hk1 H1 σ1 x1 S1 => hN Hk1 H1 σ1 ρ1 x1 S1 (okS.mono x1 h)
    | br => exact h
    | rt x => exact h
theorem rd_for {it : MI} {g : MG} {b : MS} {D : Ends} {σ : St} {H : Hp} (h : rdS c (mFor it g b) D σ H) : tFor (rdI c it) (rdG c g) (rdS c b) D σ H := by
  obtain ⟨F, Hk, bp, ρ, S, h⟩ := h
  refine ⟨F, Hk, bp, ρ, S, ?_⟩
  have h : okS c F Hk bp D ((it ρ).bind fun xs ρ1 => mLoop g b xs ρ1) := h
  cases e : it ρ with
  | stuck => rw [e] at h; exact h
  | exc x ρ' => rw [e] at h; exact fun Hk1 H1 cls d => h Hk1 H1 σ cls d
  | ok p =>
    obtain ⟨xs, ρ1⟩ := p
    rw [e] at h
    intro Hk1 H1 J x1 S1 wk
    have h : okS c F Hk1 bp D (mLoop g b xs ρ1) := okS.mono x1 h
    refine ⟨fun i m σ' H' => m = xs.length - i ∧ i ≤ xs.length ∧ ∃ Hk' ρ', Ex Hk1 Hk' ∧ At c F Hk' H' bp σ' ρ' ∧ okS c F Hk' bp D (mLoop g b (xs.drop i) ρ'), ⟨xs.length, by simp, Nat.zero_le _, Hk1, ρ1, Ex.refl _, ⟨S1, S.2⟩, h⟩, ?_⟩
    rintro i m σ' H' ⟨rfl, hi, Hk', ρ', x', S', h'⟩
    by_cases hlt : i < xs.length
    · refine .inr ⟨wk.go i H' (x'.trans S'.1.ex) hlt, fun σ2 H2 => ∃ Hk2 ρ2, Ex Hk1 Hk2 ∧ At c F Hk2 H2 bp σ2 ρ2 ∧ okS c F Hk2 bp D (mLoop g b (xs.drop (i + 1)) ρ2), fun σ2 H2 ⟨Hk2, ρ2, x2, S2, h2⟩ => ⟨xs.length - (i + 1), by omega, rfl, hlt, Hk2, ρ2, x2, S2, h2⟩, fun x H2 y => ?_⟩
      obtain ⟨z, ez, hz⟩ := wk.yld i H' x H2 (x'.trans S'.1.ex) hlt y
      have ed : xs.drop i = z :: xs.drop (i + 1) := by
        rw [List.drop_eq_getElem_cons hlt]
        rw [List.getElem?_eq_getElem hlt] at ez
        cases ez; rfl
      rw [ed] at h'
      have fin : ∀ Hk3, Ex Hk' Hk3 → At c F Hk3 H2 bp σ' ρ' → RV c.K Hk3 z x → rdG c g x σ' H2 fun σ2 H2 => rdS c b { D with nx := fun σ2 H2 => ∃ Hk2 ρ2, Ex Hk1 Hk2 ∧ At c F Hk2 H2 bp σ2 ρ2 ∧ okS c F Hk2 bp D (mLoop g b (xs.drop (i + 1)) ρ2), ct := fun σ2 H2 => ∃ Hk2 ρ2, Ex Hk1 Hk2 ∧ At c F Hk2 H2 bp σ2 ρ2 ∧ okS c F Hk2 bp D (mLoop g b (xs.drop (i + 1)) ρ2), bk := D.nx } σ2 H2 := fun Hk3 x3 S3 r3 => by
        refine ⟨F, Hk3, bp, ρ', z, S3, r3, ?_⟩
        have h' := okS.mono x3 h'
        unfold mLoop at h'
        cases eg : g z ρ' with
        | none => rw [eg] at h'; exact h'
        | some ρ3 =>
          rw [eg] at h'
          intro Hk4 H4 σ4 x4 S4
          refine ⟨F, Hk4, bp, ρ3, ⟨S4, S.2⟩, okS.loop (fun Hk5 H5 σ5 ρ5 x5 S5 h5 => ⟨Hk5, ρ5, x'.trans (x3.trans (x4.trans x5)), ⟨S5, S.2⟩, h5⟩) (okS.mono x4 h')⟩
      rcases hz with ⟨rfl, r⟩ | ⟨p, vs, ys, hp, rfl, rfl, rfl, r⟩
      · exact fin Hk' (Ex.refl _) S' (RV.mono x' _ _ r)
      · have xn := Ex.new (o := .tup vs) (S'.1.ex.back hp)
        exact fin _ xn ⟨S'.1.new hp, S.2⟩ (RV.tup.mpr ⟨p, vs, rfl, SqT.of upd_same, r.mono (x'.trans xn)⟩)
    · have e : i = xs.length := by omega
      subst e
      rw [List.drop_length] at h'
      exact .inl ⟨wk.stop H' (x'.trans S'.1.ex), h' _ _ _ (Ex.refl _) S'.1⟩
theorem ms_for {iter : Expr} {body : List Stmt} {it : MI} {g : MG} {b : MS} {pos : Pos} (hp : PassesOwn (model X.prog X.w) X.A X.env X.xe) (hc : X.calm = true) (hi : PI X tg iter (rdI c it)) (hg : PG X tg (rdG c g)) (hb : PSs X body (rdS c b))
    (hs : ∀ x, foldedSetIterable iter X.env x = pure x := by intro _; rfl) : PS X (.For tg iter body [] pos) (rdS c (mFor it g b)) := PSw (ps_for hp hc hi hg hb hs) fun _ _ _ h => rd_for h
end
end Tm
set_option Elab.async false
set_option linter.all false
set_option maxRecDepth 100000
set_option maxHeartbeats 2000000
namespace Tm
open PySem L2
open Evl (Ex ex_rd ex_l ex_t)
theorem okXN {P : Program} {w : World} {K : PySem.W.Frag} {mg : Str → Option Value} {base : Heap} {x qual : Str} {st : Stmt} {f : Addr} {fd : FuncData} {N ps : List Str} {k : Nat} {sp : Sp} (F : Fun K x qual st f fd) (S : FnScope N ps (defScope st)) (hl : ∀ vs H Q E, sp vs H Q E → vs.length = ps.length)
    (b : ∀ (cdv : Value) (A : Around) (outer : List PySem.Env) (s : Shared) (H : Hp) (vs : List V) (Q : VK) (E : XK), Room k (A.deeper (PyProof.Rows.envOfC qual (defScope st) s.heap.objs.size f cdv)) → sp vs H Q E →
      ∃ t, PSs (cxOf (L2N.CX P w) P w K mg base N qual (defScope st) f cdv A outer s H E) (defBody st) t ∧ t { nx := fun _ H' => Q .non H', rt := Q } (L2.start N vs) H) : FnOk P w K mg base (L2N.CX P w) (k + 1) f fd ps sp := by
  obtain ⟨_, _, _, _, _, _, cv, _, _, rfl, e, hc⟩ := F.ex
  exact fn_of e hc S hl fun A outer s H vs Q E hr h => b cv A outer s H vs Q E hr h
abbrev MF := List MV → Res (MV × Env)
def endOf (bs : List Nat) (ρ : Env) : Env := bs.map fun i => (ρ[i]?).join
def mFn (n : Nat) (bs : List Nat) (m : MS) : MF := fun xs => match m (xs.map some ++ List.replicate (n - xs.length) none) with
  | .ok (.rt v, ρ) => .ok (v, endOf bs ρ)
  | .ok (.nx, ρ) => .ok (.non, endOf bs ρ)
  | .exc e ρ => .exc e (endOf bs ρ)
  | _ => .stuck
def okF (K : PySem.W.Frag) (mg : Str → Option Value) (F Hk : Hp) (bσ : St) (Q : VK) (E : XK) : Res (MV × Env) → Prop
  | .ok (v, bs) => ∀ Hk' H' w, Ex Hk Hk' → RS K F Hk' H' [] (bσ ++ [some w]) (bs ++ [some v]) → Q w H'
  | .exc e bs => ∀ Hk' H' cls d, Ex Hk Hk' → RS K F Hk' H' [] bσ bs → ExR K mg Hk' e cls d → E cls d H'
  | .stuck => False
def spF (K : PySem.W.Frag) (mg : Str → Option Value) (np : Nat) (bs : List Nat) (f : MF) : Sp := fun vs H Q E => vs.length = np ∧ ∃ F Hk bp xs, RS K F Hk H bp (vs.map some) (xs.map some) ∧ bp.map (·.1) = bs ∧ okF K mg F Hk (bp.map fun q => some (.ref q.2)) Q E (f xs)
section
variable {K : PySem.W.Frag} {F Hk H : Hp} {bp : List (Nat × Addr)} {σ : St} {ρ : Env}
theorem RS.pick (S : RS K F Hk H bp (σ ++ [some v]) (ρ ++ [some x])) (is : List Nat) (nd : is.Nodup) (hl : ∀ i ∈ is, i < ρ.length) :
    RS K F Hk H [] ((is.map fun i => (σ[i]?).join) ++ [some v]) ((is.map fun i => (ρ[i]?).join) ++ [some x]) := by
  obtain ⟨ow, s⟩ := S.ow
  have hlen : σ.length = ρ.length := by have := S.len; simpa using this
  have old : ∀ {j i : Nat}, is[j]? = some i → i < ρ.length := fun h => hl _ (List.mem_of_getElem? h)
  refine ⟨by simp, S.ex, S.fr, S.frk, ⟨fun j => match is[j]? with | some i => ow i | none => if j = is.length then ow ρ.length else [], ?_⟩, fun q hq => nomatch hq⟩
  have own : ∀ j a, a ∈ (match is[j]? with | some i => ow i | none => if j = is.length then ow ρ.length else []) → (∃ i, is[j]? = some i ∧ a ∈ ow i) ∨ (j = is.length ∧ a ∈ ow ρ.length) := fun j a h => by
    cases e : is[j]? with
    | some i => rw [e] at h; exact .inl ⟨i, rfl, h⟩
    | none =>
      rw [e] at h
      by_cases e2 : j = is.length
      · rw [if_pos e2] at h; exact .inr ⟨e2, h⟩
      · rw [if_neg e2] at h; cases h
  refine ⟨fun j y h => ?_, fun j a h => ?_, fun j h => ?_, fun j k a hjk h1 h2 => ?_⟩
  · rcases app_get h with ⟨e1, e2⟩ | ⟨lt, e2⟩
    · cases e2
      rw [List.length_map] at e1
      subst e1
      obtain ⟨u, hu, ou⟩ := s.s ρ.length x (by simp)
      have ev : u = v := by rw [← hlen] at hu; simpa using hu.symm
      subst ev
      refine ⟨u, by simp, ?_⟩
      have : is[is.length]? = none := by simp
      rw [this, if_pos rfl]
      exact ou
    · rw [List.length_map] at lt
      rw [List.getElem?_map] at e2
      cases ei : is[j]? with
      | none => rw [ei] at e2; cases e2
      | some i =>
        rw [ei] at e2
        have e3 : ρ[i]? = some (some y) := by
          cases er : ρ[i]? with
          | none => rw [Option.map_some, er] at e2; cases e2
          | some o => rw [Option.map_some, er] at e2; cases o with
            | none => cases e2
            | some z => cases e2; rfl
        have li := old ei
        obtain ⟨w, w1, w2⟩ := s.s i y (by rw [List.getElem?_append_left li]; exact e3)
        rw [List.getElem?_append_left (by rw [hlen]; exact li)] at w1
        refine ⟨w, ?_, w2⟩
        rw [List.getElem?_append_left (by simpa using lt), List.getElem?_map, ei, Option.map_some, w1]; rfl
  · rcases own j a h with ⟨i, _, m⟩ | ⟨_, m⟩
    · exact s.f i a m
    · exact s.f _ a m
  · cases e : (match is[j]? with | some i => ow i | none => if j = is.length then ow ρ.length else []) with
    | nil => exact (h e).elim
    | cons a r =>
      rcases own j a (by rw [e]; simp) with ⟨i, ei, _⟩ | ⟨e2, _⟩
      · have := lt_get ei; simp; omega
      · simp; omega
  · rcases own j a h1 with ⟨i, ei, m⟩ | ⟨e1, m⟩ <;> rcases own k a h2 with ⟨i2, ei2, m2⟩ | ⟨e2, m2⟩
    · have ne : i ≠ i2 := fun z => by
        subst z
        obtain ⟨a1, a2⟩ := List.getElem?_eq_some_iff.mp ei
        obtain ⟨b1, b2⟩ := List.getElem?_eq_some_iff.mp ei2
        exact hjk ((List.getElem_inj nd).mp (a2.trans b2.symm))
      exact s.d i i2 a ne m m2
    · exact s.d i ρ.length a (Nat.ne_of_lt (old ei)) m m2
    · exact s.d i2 ρ.length a (Nat.ne_of_lt (old ei2)) m2 m
    · exact hjk (e1.trans e2.symm)
theorem RS.pad (S : RS K F Hk H bp σ ρ) (n : Nat) : RS K F Hk H bp (σ ++ List.replicate n none) (ρ ++ List.replicate n none) := by
  obtain ⟨ow, s⟩ := S.ow
  have g : ∀ {α : Type} {l : List (Option α)} {j : Nat} {y : α}, (l ++ List.replicate n none)[j]? = some (some y) → l[j]? = some (some y) := fun {α l j y} h => by
    by_cases e : j < l.length
    · rw [List.getElem?_append_left e] at h; exact h
    · rw [List.getElem?_append_right (Nat.le_of_not_lt e), List.getElem?_replicate] at h
      split at h <;> cases h
  have g2 : ∀ {α : Type} {l : List (Option α)} {j : Nat} {y : α}, l[j]? = some (some y) → (l ++ List.replicate n none)[j]? = some (some y) := fun {α l j y} h => by
    rw [List.getElem?_append_left (lt_get h)]; exact h
  refine ⟨by simp [S.len], S.ex, S.fr, S.frk, ⟨ow, fun j y h => ?_, s.f, fun j h => ?_, s.d⟩, fun q hq => g2 (S.bor q hq)⟩
  · obtain ⟨v, e, o⟩ := s.s j y (g h)
    exact ⟨v, g2 e, o⟩
  · have := s.w j h; simp; omega
theorem RS.args {xs : List MV} {vs : List V} (ex : Ex Hk H) (fr : Ex F H) (frk : ∀ a o, F a = some o → Hk a = none) (r : RVs K Hk xs vs) : RS K F Hk H [] (vs.map some) (xs.map some) := by
  refine ⟨by simp [r.length], ex, fr, frk, ⟨fun _ => [], fun j y h => ?_, fun j a h => (nomatch h), fun j h => (h rfl).elim, fun j k a _ h => nomatch h⟩, fun q hq => nomatch hq⟩
  rw [List.getElem?_map] at h
  cases e : xs[j]? with
  | none => rw [e] at h; cases h
  | some z =>
    rw [e] at h
    cases h
    obtain ⟨v, e1, rv⟩ := r.get e
    exact ⟨v, by rw [List.getElem?_map, e1]; rfl, rv.ov⟩
end
section
variable {X : Cx} {c : Ct}
def fz : MV → Option MV
  | .own xs => some (.lst xs)
  | .obj _ _ => none
  | .dow _ _ => none
  | .dot _ _ => none
  | x => some x
def mFz (m : ME) : ME := fun ρ => (m ρ).bind fun x ρ1 => match fz x with | some y => .ok (y, ρ1) | none => .stuck
theorem RS.last {K : PySem.W.Frag} {F Hk H : Hp} {bp : List (Nat × Addr)} {σ : St} {ρ : Env} {v : V} {x y : MV} (S : RS K F Hk H bp (σ ++ [some v]) (ρ ++ [some x])) (hb : ∀ q ∈ bp, q.1 < ρ.length) (e : fz x = some y) :
    ∃ Hk', Ex Hk Hk' ∧ RS K F Hk' H bp σ ρ ∧ RV K Hk' y v := by
  have hl : σ.length = ρ.length := by have := S.len; simpa using this
  have pl : x.per = true → y = x → ∃ Hk', Ex Hk Hk' ∧ RS K F Hk' H bp σ ρ ∧ RV K Hk' y v := fun px ey => by
    subst ey
    obtain ⟨w, ew, rw'⟩ := S.get (i := ρ.length) (x := y) (by simp) px
    rw [← hl] at ew
    have : w = v := by simpa using ew.symm
    subst this
    exact ⟨Hk, Ex.refl _, S.drop hb, rw'⟩
  cases x with
  | own xs =>
    cases e
    obtain ⟨p, vs, e1, ex, r, S'⟩ := S.freeze (i := ρ.length) (xs := xs) (by simp)
    rw [← hl] at e1
    have : v = .ref p := by simpa using e1
    subst this
    refine ⟨_, ex, ?_, r⟩
    have z : (ρ ++ [some (MV.own xs)]).set ρ.length (some (.lst xs)) = ρ ++ [some (.lst xs)] := by simp
    rw [z] at S'
    exact S'.drop hb
  | obj C fs => cases e
  | dow _ _ => cases e
  | dot _ _ => cases e
  | _ => cases e; exact pl rfl rfl
theorem rd_fz {m : ME} {σ : St} {H : Hp} {Q : VK} (h : rdE c (mFz m) σ H Q) : rdO c m σ H Q := by
  obtain ⟨F, Hk, bp, ρ, S, h⟩ := h
  refine ⟨F, Hk, bp, ρ, S, ?_⟩
  have h : okE c F Hk bp σ Q ((m ρ).bind fun x ρ1 => match fz x with | some y => .ok (y, ρ1) | none => .stuck) := h
  cases e : m ρ with
  | stuck => rw [e] at h; exact h
  | exc x ρ' => rw [e] at h; exact h
  | ok p =>
    obtain ⟨x, ρ1⟩ := p
    rw [e] at h
    intro Hk1 H1 v x1 S1
    have h : okE c F Hk bp σ Q (match fz x with | some y => .ok (y, ρ1) | none => .stuck) := h
    have l1 : σ.length = ρ1.length := by have := S1.len; simpa using this
    cases ez : fz x with
    | none => rw [ez] at h; exact h.elim
    | some y =>
      rw [ez] at h
      obtain ⟨Hk2, x2, S2, r2⟩ := S1.last (fun q hq => by rw [← l1]; exact lt_get (S.1.bor q hq)) ez
      exact h _ _ _ (x1.trans x2) S2 r2
theorem me_fz {e : Expr} {m : ME} (h : PE X e (rdO c m)) : PE X e (rdE c (mFz m)) := PEw h fun _ _ _ q => rd_fz q
def mCall (f : MF) (a : MA) : ME := fun ρ => (a ρ).bind fun xs ρ1 => match f xs with
  | .ok (v, _) => .ok (v, ρ1)
  | .exc e _ => .exc e ρ1
  | .stuck => .stuck
theorem call_end {f : MF} {n : Nat} {F Hk H : Hp} {bp : List (Nat × Addr)} {σ : St} {ρ : Env} {xs : List MV} {vs : List V} {Q : VK} {E : XK} (S : At c F Hk H bp σ ρ) (r : RVs c.K Hk xs vs) (hn : xs.length = n)
    (hE : ∀ e, (∀ Hk' H' cls d, Ex Hk Hk' → RS c.K F Hk' H' bp σ ρ → ExR c.K c.mg Hk' e cls d → c.W cls d σ H') → ∀ Hk' H' cls d, Ex Hk Hk' → RS c.K F Hk' H' bp σ ρ → ExR c.K c.mg Hk' e cls d → E cls d H')
    (h : okO c F Hk bp σ Q (match f xs with | .ok (v, _) => .ok (v, ρ) | .exc e _ => .exc e ρ | .stuck => .stuck)) : spF c.K c.mg n [] f vs H Q E := by
  refine ⟨by rw [r.length]; exact hn, ?_⟩
  obtain ⟨ow, s⟩ := S.1.ow
  haveI : ∀ a, Decidable (∃ i, a ∈ ow i) := fun a => Classical.propDecidable _
  have fN : ∃ F' : Hp, (∀ i a, a ∈ ow i → F' a = H a) ∧ (∀ a o, F a = some o → F' a = some o) ∧ ∀ a o, F' a = some o → H a = some o ∧ Hk a = none := by
    refine ⟨fun a => if (∃ i, a ∈ ow i) then H a else F a, fun i a ha => if_pos ⟨i, ha⟩, fun a o ha => ?_, fun a o ha => ?_⟩
    · have : ¬ ∃ i, a ∈ ow i := fun ⟨i, hi⟩ => by have := (s.f i a hi).2.1; rw [ha] at this; cases this
      show (if (∃ i, a ∈ ow i) then H a else F a) = some o
      rw [if_neg this]; exact ha
    · have ha : (if (∃ i, a ∈ ow i) then H a else F a) = some o := ha
      by_cases e : ∃ i, a ∈ ow i
      · rw [if_pos e] at ha
        obtain ⟨i, hi⟩ := e
        exact ⟨ha, (s.f i a hi).1⟩
      · rw [if_neg e] at ha
        exact ⟨S.1.fr a o ha, S.1.frk a o ha⟩
  obtain ⟨F', f1, f2, f3⟩ := fN
  refine ⟨F', Hk, [], xs, RS.args S.1.ex (fun a o ha => (f3 a o ha).1) (fun a o ha => (f3 a o ha).2) r, rfl, ?_⟩
  -- what stands behind the call
  have back : ∀ {Hk' H' : Hp} {bσ : St} {bρ : Env}, Ex Hk Hk' → RS c.K F' Hk' H' [] bσ bρ → RS c.K F Hk' H' bp σ ρ ∧ SL c.K F Hk' H' ow σ ρ := fun {Hk' H' bσ bρ} x S' => by
    have own : ∀ i, ∀ a ∈ ow i, H' a = H a ∧ Hk' a = none := fun i a ha => by
      obtain ⟨g1, g2, o, g3⟩ := s.f i a ha
      have q : F' a = some o := (f1 i a ha).trans g3
      exact ⟨(S'.fr a o q).trans g3.symm, S'.frk a o q⟩
    have sl : SL c.K F Hk' H' ow σ ρ := s.step x own
    exact ⟨⟨S.1.len, S'.ex, fun a o ha => S'.fr a o (f2 a o ha), fun a o ha => S'.frk a o (f2 a o ha), ⟨ow, sl⟩, S.1.bor⟩, sl⟩
  cases ef : f xs with
  | stuck => rw [ef] at h; exact h.elim
  | exc e bs =>
    rw [ef] at h
    intro Hk' H' cls d x S' er
    exact hE e h Hk' H' cls d x (back x S').1 er
  | ok p =>
    obtain ⟨v, bs⟩ := p
    rw [ef] at h
    intro Hk' H' w x S'
    obtain ⟨R1, sl⟩ := back x S'
    refine h Hk' H' w x ?_
    obtain ⟨ow2, s2⟩ := S'.ow
    have bl : bs.length = 0 := by have := S'.len; simpa using this.symm
    have be : bs = [] := List.eq_nil_of_length_eq_zero bl
    subst be
    obtain ⟨w2, e2, o2⟩ := s2.s 0 v rfl
    cases e2
    refine ⟨by simp [S.1.len], R1.ex, R1.fr, R1.frk, ⟨_, sl.push S.1.len o2 (fun a ha => ?_) (fun i a ha hi => ?_)⟩, R1.bor_app _⟩
    · obtain ⟨g1, g2, _⟩ := s2.f 0 a ha
      refine ⟨g1, ?_⟩
      cases e : F a with
      | none => rfl
      | some o => rw [f2 a o e] at g2; cases g2
    · obtain ⟨g1, g2, o, g3⟩ := s2.f 0 a ha
      obtain ⟨_, _, o', q⟩ := s.f i a hi
      rw [f1 i a hi, q] at g2
      cases g2
theorem rd_call {f : MF} {n : Nat} {a : MA} {σ : St} {H : Hp} {Q : VK} (hn : ∀ ρ xs ρ', a ρ = .ok (xs, ρ') → xs.length = n) (h : rdO c (mCall f a) σ H Q) : tCallS (spF c.K c.mg n [] f) (WE c.W) (rdA c a) σ H Q := by
  obtain ⟨F, Hk, bp, ρ, S, h⟩ := h
  refine ⟨F, Hk, bp, ρ, S, ?_⟩
  have h : okO c F Hk bp σ Q ((a ρ).bind fun xs ρ1 => match f xs with | .ok (v, _) => .ok (v, ρ1) | .exc e _ => .exc e ρ1 | .stuck => .stuck) := h
  cases e : a ρ with
  | stuck => rw [e] at h; exact h
  | exc x ρ' => rw [e] at h; exact h
  | ok p =>
    obtain ⟨xs, ρ1⟩ := p
    rw [e] at h
    intro Hk1 H1 vs x1 S1 r1
    exact call_end ⟨S1, S.2⟩ r1 (hn _ _ _ e) (fun e q => q) (okO.mono x1 h)
def Lng (a : MA) (n : Nat) : Prop := ∀ ρ xs ρ', a ρ = .ok (xs, ρ') → xs.length = n
theorem lng_nil : Lng mNil 0 := fun ρ xs ρ' h => by cases h; rfl
theorem lng_cons {a : ME} {b : MA} {n : Nat} (h : Lng b n) : Lng (mCons a b) (n + 1) := fun ρ xs ρ' e => by
  unfold mCons at e
  cases ea : a ρ with
  | stuck => rw [ea] at e; cases e
  | exc x r => rw [ea] at e; cases e
  | ok p =>
    rw [ea] at e
    have e : (b p.2).bind (fun ys ρ2 => Res.ok (p.1 :: ys, ρ2)) = .ok (xs, ρ') := e
    cases eb : b p.2 with
    | stuck => rw [eb] at e; cases e
    | exc x r => rw [eb] at e; cases e
    | ok q =>
      rw [eb] at e
      cases e
      simp [h _ _ _ eb]
variable {k : Nat} {fa : Addr} {fd : FuncData} {ps : List Str} {x : Str} {p pos : Pos} {e : Expr} {es : List Expr} {f : MF} {a : MA} {n : Nat}
theorem mo_call (F : FnOk X.prog X.w X.K X.mg X.base (L2N.CX X.prog X.w) k fa fd ps (spF X.K X.mg n [] f)) (hr : Room k X.A) (hm : X.mg x = some (.ref fa)) (hk : PySem.W.keepIn X.K (.ref fa) = true) (hb : Binds X.K fd ps []) (tk : L2N.Takes X c.W)
    (ha : PA X (e :: es) (rdA c a)) (hn : Lng a n) (hg : Gl X x := by rfl) (hK : c.K = X.K := by rfl) (hM : c.mg = X.mg := by rfl) (hdb : (x == ("__debug__" : Str)) = false := by decide) (he : starEach (e :: es) X.env = (false, eval e X.env) :: starEach es X.env := by rfl)
    (hpl : (backTo pos (starEach es X.env)).any (·.1) = false := by rfl) : PE X (.Call (.Name x p) (e :: es) [] pos) (rdO c (mCall f a)) :=
  PEw (pe_callS (E := WE c.W) F hr hg hm hk hb (fun σ => L2N.passAt tk σ) ha hdb he hpl) fun σ H Q h => by
    have := rd_call hn h
    rw [hK, hM] at this
    exact this
def mCall0 (f : MF) (a : MA) : ME := fun ρ => (a ρ).bind fun xs ρ1 => match f xs with
  | .ok (v, _) => .ok (v, ρ1)
  | _ => .stuck
theorem rd_call0 {f : MF} {n : Nat} {a : MA} {σ : St} {H : Hp} {Q : VK} (hn : Lng a n) (h : rdO c (mCall0 f a) σ H Q) : tCall (spF c.K c.mg n [] f) [] (fun _ _ _ => False) (rdA c a) σ H Q := by
  obtain ⟨F, Hk, bp, ρ, S, h⟩ := h
  refine ⟨F, Hk, bp, ρ, S, ?_⟩
  have h : okO c F Hk bp σ Q ((a ρ).bind fun xs ρ1 => match f xs with | .ok (v, _) => .ok (v, ρ1) | _ => .stuck) := h
  cases e : a ρ with
  | stuck => rw [e] at h; exact h
  | exc x ρ' => rw [e] at h; exact h
  | ok p =>
    obtain ⟨xs, ρ1⟩ := p
    rw [e] at h
    intro Hk1 H1 vs x1 S1 r1
    rw [List.append_nil]
    have h : okO c F Hk bp σ Q (match f xs with | .ok (v, _) => .ok (v, ρ1) | _ => .stuck) := h
    cases ef : f xs with
    | stuck => rw [ef] at h; exact h.elim
    | exc e bs => rw [ef] at h; exact h.elim
    | ok q =>
      rw [ef] at h
      refine call_end (f := f) (c := ⟨c.K, c.mg, fun _ _ _ _ => False, c.bs, c.J, c.Jm⟩) ⟨S1, S.2⟩ r1 (hn _ _ _ e) (fun e q => q) ?_
      rw [ef]
      exact fun Hk2 H2 w x2 => h Hk2 H2 w (x1.trans x2)
theorem passes0 {P : Program} {w : World} {X : Cx} : Passes (L2N.CX P w) X fun _ _ _ => False := fun _ _ _ _ _ _ _ ⟨_, _, _, _, _, _, _, _, _, _, _, _, f⟩ => f.elim
theorem mo_call0 (F : FnOk X.prog X.w X.K X.mg X.base (L2N.CX X.prog X.w) k fa fd ps (spF X.K X.mg n [] f)) (hr : Room k X.A) (hm : X.mg x = some (.ref fa)) (hk : PySem.W.keepIn X.K (.ref fa) = true) (hb : Binds X.K fd ps [])
    (ha : PA X (e :: es) (rdA c a)) (hn : Lng a n) (hg : Gl X x := by rfl) (hK : c.K = X.K := by rfl) (hM : c.mg = X.mg := by rfl) (hdb : (x == ("__debug__" : Str)) = false := by decide) (he : starEach (e :: es) X.env = (false, eval e X.env) :: starEach es X.env := by rfl)
    (hpl : (backTo pos (starEach es X.env)).any (·.1) = false := by rfl) : PE X (.Call (.Name x p) (e :: es) [] pos) (rdO c (mCall0 f a)) :=
  PEw (pe_call F hr hg hm hk hb .nil passes0 ha hdb he hpl) fun σ H Q h => by
    have := rd_call0 hn h
    rw [hK, hM] at this
    exact this
end
section
variable {P : Program} {w : World} {K : PySem.W.Frag} {mg : Str → Option Value} {base : Heap}
theorem start_eq {N : List Str} {vs : List V} {xs : List MV} (h : vs.length = xs.length) : L2.start N vs = vs.map some ++ List.replicate (N.length - xs.length) none := by unfold L2.start; rw [h]
theorem fn_ok {x qual : Str} {st : Stmt} {f : Addr} {fd : FuncData} {N ps : List Str} {k : Nat} {bs : List Nat} {m : MS} (F : Fun K x qual st f fd) (S : FnScope N ps (defScope st)) (nd : bs.Nodup) (hbs : ∀ i ∈ bs, i < ps.length)
    (hbody : ∀ (cdv : Value) (A : Around) (outer : List PySem.Env) (s : Shared) (H : Hp) (E : XK), Room k (A.deeper (PyProof.Rows.envOfC qual (defScope st) s.heap.objs.size f cdv)) →
      PSs (cxOf (L2N.CX P w) P w K mg base N qual (defScope st) f cdv A outer s H E) (defBody st) (rdS ⟨K, mg, fun cls d _ H => E cls d H, bs, fun _ _ => True, fun _ _ _ _ _ => trivial⟩ m)) :
    FnOk P w K mg base (L2N.CX P w) (k + 1) f fd ps (spF K mg ps.length bs (mFn N.length bs m)) := by
  refine okXN F S (fun vs H Q E h => h.1) (fun cdv A outer s H vs Q E hr h => ⟨_, hbody cdv A outer s H E hr, ?_⟩)
  obtain ⟨hl, F', Hk, bp, xs, R, eb, h⟩ := h
  have el : vs.length = xs.length := by have := R.len; simpa using this
  rw [start_eq el]
  refine ⟨F', Hk, bp, _, ⟨R.pad _, eb, trivial⟩, ?_⟩
  have bor : ∀ {σ' : St} {Hk' H' : Hp} {ρ' : Env}, RS K F' Hk' H' bp σ' ρ' → bs.map (fun i => (σ'[i]?).join) = bp.map (fun q => some (.ref q.2)) := fun {σ' Hk' H' ρ'} S' => by
    rw [← eb, List.map_map]
    refine List.map_congr_left fun q hq => ?_
    show (σ'[q.1]?).join = _
    rw [S'.bor q hq]; rfl
  have bl : ∀ {σ' : St} {Hk' H' : Hp} {ρ' : Env}, RS K F' Hk' H' bp σ' ρ' → ∀ i ∈ bs, i < ρ'.length := fun {σ' Hk' H' ρ'} S' i hi => by
    rw [← eb] at hi
    obtain ⟨q, hq, rfl⟩ := List.mem_map.mp hi
    rw [← S'.len]; exact lt_get (S'.bor q hq)
  unfold mFn at h
  cases em : m (xs.map some ++ List.replicate (N.length - xs.length) none) with
  | stuck => rw [em] at h; exact h.elim
  | exc e ρ' =>
    rw [em] at h
    intro Hk' H' σ' cls d x S' er
    refine h Hk' H' cls d x ?_ er
    have z := ((S'.push (x := .non) (v := .non) (RV.non.mpr rfl)).pick bs nd (bl S')).drop (fun _ hq => nomatch hq)
    rw [bor S'] at z
    exact z
  | ok p =>
    obtain ⟨fl, ρ'⟩ := p
    rw [em] at h
    have ret : ∀ {Hk' H' : Hp} {σ' : St} {u : V} {v : MV}, okF K mg F' Hk (bp.map fun q => some (.ref q.2)) Q E (.ok (v, endOf bs ρ')) → Ex Hk Hk' → RS K F' Hk' H' bp (σ' ++ [some u]) (ρ' ++ [some v]) → (∀ q ∈ bp, q.1 < ρ'.length) → Q u H' := fun {Hk' H' σ' u v} h x S' hq => by
      refine h Hk' H' u x ?_
      have z := S'.pick bs nd (fun i hi => by
        rw [← eb] at hi
        obtain ⟨q, hq', rfl⟩ := List.mem_map.mp hi
        exact hq q hq')
      have l1 : σ'.length = ρ'.length := by have := S'.len; simpa using this
      have e2 : bs.map (fun i => (σ'[i]?).join) = bp.map (fun q => some (.ref q.2)) := by
        rw [← eb, List.map_map]
        refine List.map_congr_left fun q hq' => ?_
        show (σ'[q.1]?).join = _
        have := S'.bor q hq'
        rw [List.getElem?_append_left (by rw [l1]; exact hq q hq')] at this
        rw [this]; rfl
      rw [e2] at z
      exact z
    cases fl with
    | nx => exact fun Hk' H' σ' x S' => ret h x (S'.push (x := .non) (v := .non) (RV.non.mpr rfl)) (fun q hq => by rw [← S'.len]; exact lt_get (S'.bor q hq))
    | br => exact h.elim
    | ct => exact h.elim
    | rt v =>
      intro Hk' H' σ' u x lq S'
      have l1 : σ'.length = ρ'.length := by have := S'.len; simpa using this
      exact ret h x S' fun q hq => by rw [← l1]; exact lq q hq
end
end Tm
set_option Elab.async false
set_option linter.all false
set_option maxRecDepth 100000
set_option maxHeartbeats 2000000
namespace Tm
open PySem L2
open Evl (Ex ex_rd ex_l ex_t)
def CallS (K : PySem.W.Frag) (f : List MV → Option MV) (r : List V → Hp → VK → Prop) : Prop := ∀ (xs : List MV) (z : MV) (vs : List V) (Hk H : Hp) (Q : VK), f xs = some z → Ex Hk H → RVs K Hk xs vs → (∀ u, RV K Hk z u → Q u H) →
  (∀ p o, H p = none → RV K (upd Hk p o) z (.ref p) → Q (.ref p) (upd H p o)) → r vs H Q
def mBlt (f : List MV → Option MV) (a : MA) : ME := fun ρ => (a ρ).bind fun xs ρ1 => match f xs with | some z => .ok (z, ρ1) | none => .stuck
section
variable {X : Cx} {c : Ct} {x : Str} {p pos : Pos} {e : Expr} {es : List Expr} {a : MA} {id T : String} {f : List MV → Option MV} {r : List V → Hp → VK → Prop}
theorem rd_blt (o : CallS c.K f r) {σ : St} {H : Hp} {Q : VK} (h : rdE c (mBlt f a) σ H Q) : tCB r (rdA c a) σ H Q := by
  obtain ⟨F, Hk, bp, ρ, S, h⟩ := h
  refine rdAw (bA postE S h) fun vs H1 ⟨Hk1, xs, ρ1, x1, S1, r1, h1⟩ => ?_
  have h1 : okE c F Hk1 bp σ Q (match f xs with | some z => .ok (z, ρ1) | none => .stuck) := h1
  cases ef : f xs with
  | none => rw [ef] at h1; exact h1.elim
  | some z =>
    rw [ef] at h1
    exact o xs z vs Hk1 H1 Q ef S1.1.ex r1 (fun u ru => h1 _ _ u (Ex.refl _) S1.1 ru) fun p ob hp ru => h1 _ _ _ (Ex.new (S1.1.ex.back hp)) (S1.1.new hp) ru
theorem me_blt (hc : CallR X (.builtin id) r) (o : CallS c.K f r) (hm : X.mg x = none) (hv : bootBuiltins x = some (.builtin id)) (ha : PA X (e :: es) (rdA c a)) (hg : Gl X x := by rfl) (hn : x ≠ "__name__" := by decide) (hdb : (x == ("__debug__" : Str)) = false := by decide)
    (he : starEach (e :: es) X.env = (false, eval e X.env) :: starEach es X.env := by rfl) (hpl : (backTo pos (starEach es X.env)).any (·.1) = false := by rfl) : PE X (.Call (.Name x p) (e :: es) [] pos) (rdE c (mBlt f a)) :=
  PEw (pe_callB hc hg hm hv ha hn hdb he hpl) fun _ _ _ h => rd_blt o h
theorem me_ty (hc : CallR X (.type T) r) (o : CallS c.K f r) (hm : X.mg x = none) (hv : bootBuiltins x = some (.type T)) (ha : PA X (e :: es) (rdA c a)) (hg : Gl X x := by rfl) (hn : x ≠ "__name__" := by decide) (hdb : (x == ("__debug__" : Str)) = false := by decide)
    (he : starEach (e :: es) X.env = (false, eval e X.env) :: starEach es X.env := by rfl) (hpl : (backTo pos (starEach es X.env)).any (·.1) = false := by rfl) : PE X (.Call (.Name x p) (e :: es) [] pos) (rdE c (mBlt f a)) :=
  PEw (pe_callTy hc hg hm hv ha hn hdb he hpl) fun _ _ _ h => rd_blt o h
theorem me_glob {v : MV} {w : V} {u : Value} (hm : X.mg x = some u) (rv : RelV w u) (r : ∀ H, RV c.K H v w) (hg : Gl X x := by rfl) (hd : (x == ("__debug__" : Str)) = false := by decide) : PE X (.Name x pos) (rdE c (mC v)) :=
  PEw (pe_glob hg hm rv hd) fun _ _ _ h => rd_c r h
theorem me_bltn {w : V} {u : Value} (hm : X.mg x = none) (hv : bootBuiltins x = some u) (rv : RelV w u) (hg : Gl X x := by rfl) (hn : x ≠ "__name__" := by decide) (hd : (x == ("__debug__" : Str)) = false := by decide) : PE X (.Name x pos) (rdE c (mC (.raw w))) :=
  PEw (pe_bltn hg hm hv rv hn hd) fun _ _ _ h => rd_c (fun _ => RV.raw.mpr rfl) h
end
section
variable {K : PySem.W.Frag}
theorem rvs1 {H : Hp} {x : MV} {vs : List V} (r : RVs K H [x] vs) : ∃ v, vs = [v] ∧ RV K H x v := by
  obtain ⟨v, r', rfl, q1, q2⟩ := RVs.cons.mp r
  rw [RVs.nil.mp q2]
  exact ⟨v, rfl, q1⟩
theorem rvs2' {H : Hp} {x y : MV} {vs : List V} (r : RVs K H [x, y] vs) : ∃ v w, vs = [v, w] ∧ RV K H x v ∧ RV K H y w := by
  obtain ⟨v, r', rfl, q1, q2⟩ := RVs.cons.mp r
  obtain ⟨w, rfl, q3⟩ := rvs1 q2
  exact ⟨v, w, rfl, q1, q3⟩
def bLen : List MV → Option MV
  | [.lst xs] => some (.int xs.length)
  | [.tup xs] => some (.int xs.length)
  | [.scr ns] => some (.int ns.length)
  | [.str z] => if szOk z.length then some (.int z.length) else none
  | _ => none
def rLenM (K : PySem.W.Frag) : List V → Hp → VK → Prop := fun xs H Q => (∃ p ys, xs = [.ref p] ∧ (SqL K H p ys ∨ SqT K H p ys) ∧ Q (.int ys.length) H) ∨ ∃ z, xs = [.str z] ∧ z.length ≤ sizeLine ∧ Q (.int z.length) H
theorem cr_lenM {X : Cx} : CallR X (.builtin "len") (rLenM X.K) := CallR.or call_len_seq call_len_str
theorem cs_len : CallS K bLen (rLenM K) := by
  intro xs z vs Hk H Q e ex r q qn
  unfold bLen at e
  split at e
  · cases e
    obtain ⟨v, rfl, rv⟩ := rvs1 r
    obtain ⟨p1, ws, rfl, h1, s1⟩ := RV.lst.mp rv
    exact .inl ⟨p1, ws, rfl, .inl (SqL.of (ex _ _ h1)), by rw [s1.length]; exact q _ (RV.int.mpr rfl)⟩
  · cases e
    obtain ⟨v, rfl, rv⟩ := rvs1 r
    obtain ⟨p1, ws, rfl, h1, s1⟩ := RV.tup.mp rv
    exact .inl ⟨p1, ws, rfl, .inr (ex_t ex h1), by rw [s1.length]; exact q _ (RV.int.mpr rfl)⟩
  · cases e
    obtain ⟨v, rfl, rv⟩ := rvs1 r
    obtain ⟨p1, rfl, h1⟩ := RV.scr.mp rv
    exact .inl ⟨p1, _, rfl, .inl (ex_l ex h1), by rw [List.length_map]; exact q _ (RV.int.mpr rfl)⟩
  · split at e
    · rename_i hz
      cases e
      obtain ⟨v, rfl, rv⟩ := rvs1 r
      exact .inr ⟨_, by rw [RV.str.mp rv], szOk_iff.mp hz, q _ (RV.int.mpr rfl)⟩
    · cases e
  · cases e
def bAbs : List MV → Option MV
  | [.int i] => some (.int (if i < 0 then -i else i))
  | _ => none
theorem cs_abs : CallS K bAbs (fun xs H Q => ∃ i, xs = [.int i] ∧ Q (.int (if i < 0 then -i else i)) H) := by
  intro xs z vs Hk H Q e ex r q qn
  unfold bAbs at e
  split at e
  · cases e
    exact ⟨_, rvs_int1 r, q _ (RV.int.mpr rfl)⟩
  · cases e
def bInt : List MV → Option MV
  | [.int i] => some (.int i)
  | [.bl k] => some (.int (if k then 1 else 0))
  | [.str s] => if decide (s.length ≤ 640) then (PySem.intText? s).map .int else none
  | _ => none
def rIntM : List V → Hp → VK → Prop := fun xs H Q => ((∃ i, xs = [.int i] ∧ Q (.int i) H) ∨ ∃ k, xs = [.bl k] ∧ Q (.int (if k then 1 else 0)) H) ∨ ∃ a n, xs = [.str a] ∧ PySem.intText? a = some n ∧ a.length ≤ 640 ∧ Q (.int n) H
theorem cr_intM {X : Cx} : CallR X (.type "int") rIntM := CallR.or call_int1 call_int_str
theorem cs_int : CallS K bInt rIntM := by
  intro xs z vs Hk H Q e ex r q qn
  unfold bInt at e
  split at e
  · cases e
    exact .inl (.inl ⟨_, rvs_int1 r, q _ (RV.int.mpr rfl)⟩)
  · cases e
    obtain ⟨v, rfl, rv⟩ := rvs1 r
    exact .inl (.inr ⟨_, by rw [RV.bl.mp rv], q _ (RV.int.mpr rfl)⟩)
  · split at e
    · rename_i s hs
      cases en : PySem.intText? s with
      | none => rw [en] at e; cases e
      | some n =>
        rw [en] at e
        cases e
        obtain ⟨v, rfl, rv⟩ := rvs1 r
        exact .inr ⟨s, n, by rw [RV.str.mp rv], en, of_decide_eq_true hs, q _ (RV.int.mpr rfl)⟩
    · cases e
  · cases e
def bStr : List MV → Option MV
  | [.int i] => if decide (i.natAbs.log2 < 1920) then some (.str (toString i)) else none
  | _ => none
theorem cs_str : CallS K bStr (fun xs H Q => ∃ i, xs = [.int i] ∧ i.natAbs.log2 < 1920 ∧ Q (.str (toString i)) H) := by
  intro xs z vs Hk H Q e ex r q qn
  unfold bStr at e
  split at e
  · split at e
    · rename_i h
      cases e
      exact ⟨_, rvs_int1 r, of_decide_eq_true h, q _ (RV.str.mpr rfl)⟩
    · cases e
  · cases e
def bTuple : List MV → Option MV
  | [.lst xs] => some (.tup xs)
  | [.tup xs] => some (.tup xs)
  | _ => none
theorem cs_tuple : CallS K bTuple (fun xs H Q => ∃ p ys, xs = [.ref p] ∧ ((SqL K H p ys ∧ ∀ l, H l = none → Q (.ref l) (upd H l (.tup ys))) ∨ (SqT K H p ys ∧ Q (.ref p) H))) := by
  intro xs z vs Hk H Q e ex r q qn
  unfold bTuple at e
  split at e
  · cases e
    obtain ⟨v, rfl, rv⟩ := rvs1 r
    obtain ⟨p1, ws, rfl, h1, s1⟩ := RV.lst.mp rv
    exact ⟨p1, ws, rfl, .inl ⟨SqL.of (ex _ _ h1), fun l hl => qn l _ hl (RV.tup.mpr ⟨l, ws, rfl, SqT.of upd_same, s1.mono (Ex.new (ex.back hl))⟩)⟩⟩
  · cases e
    obtain ⟨v, rfl, rv⟩ := rvs1 r
    obtain ⟨p1, ws, e1, h1, s1⟩ := RV.tup.mp rv
    subst e1
    exact ⟨p1, ws, rfl, .inr ⟨ex_t ex h1, q _ rv⟩⟩
  · cases e
def blsOf : List MV → Option (List Bool)
  | [] => some []
  | .bl b :: r => (blsOf r).map (b :: ·)
  | _ => none
theorem bls_rv {H : Hp} : ∀ {xs : List MV} {bs : List Bool} {vs : List V}, blsOf xs = some bs → RVs K H xs vs → vs = bs.map V.bl
  | [], bs, vs, e, r => by cases e; rw [RVs.nil.mp r]; rfl
  | .bl b :: r', bs, vs, e, r => by
    unfold blsOf at e
    cases h : blsOf r' with
    | none => rw [h] at e; cases e
    | some cs =>
      rw [h] at e
      cases e
      obtain ⟨v, us, rfl, q1, q2⟩ := RVs.cons.mp r
      rw [RV.bl.mp q1, bls_rv h q2]; rfl
  | .non :: _, _, _, e, _ => by cases e
  | .int _ :: _, _, _, e, _ => by cases e
  | .str _ :: _, _, _, e, _ => by cases e
  | .tup _ :: _, _, _, e, _ => by cases e
  | .lst _ :: _, _, _, e, _ => by cases e
  | .own _ :: _, _, _, e, _ => by cases e
  | .raw _ :: _, _, _, e, _ => by cases e
  | .scr _ :: _, _, _, e, _ => by cases e
  | .fnc _ :: _, _, _, e, _ => by cases e
  | .obj _ _ :: _, _, _, e, _ => by cases e
  | .dct _ _ :: _, _, _, e, _ => by cases e
  | .dow _ _ :: _, _, _, e, _ => by cases e
  | .dot _ _ :: _, _, _, e, _ => by cases e
def bAll : List MV → Option MV
  | [.lst xs] => (blsOf xs).map fun bs => .bl (bs.all id)
  | _ => none
theorem cs_all : CallS K bAll (rAll K) := by
  intro xs z vs Hk H Q e ex r q qn
  unfold bAll at e
  split at e
  · rename_i ys
    cases h : blsOf ys with
    | none => rw [h] at e; cases e
    | some bs =>
      rw [h] at e
      cases e
      obtain ⟨v, rfl, rv⟩ := rvs1 r
      obtain ⟨p1, ws, rfl, h1, s1⟩ := RV.lst.mp rv
      have ew := bls_rv h s1
      subst ew
      exact ⟨p1, bs, rfl, SqL.of (ex _ _ h1), q _ (RV.bl.mpr rfl)⟩
  · cases e
inductive Kd where
  | non | bl | int | str | tup | lst
  deriving DecidableEq
def Kd.name : Kd → String
  | .non => "NoneType" | .bl => "bool" | .int => "int" | .str => "str" | .tup => "tuple" | .lst => "list"
def MV.kd : MV → Option Kd
  | .non => some .non | .bl _ => some .bl | .int _ => some .int | .str _ => some .str | .tup _ => some .tup | .lst _ => some .lst
  | _ => none
def kdOf : String → Option Kd
  | "bool" => some .bl | "int" => some .int | "str" => some .str | "tuple" => some .tup | "list" => some .lst
  | _ => none
def Kd.isa (a b : Kd) : Bool := decide (a = b) || (decide (a = .bl) && decide (b = .int))
theorem kit_kd (a b : Kd) (h : b ≠ .non) : kitB a.name b.name = some (a.isa b) := by
  cases a <;> cases b <;> first | exact (h rfl).elim | decide +kernel
def bIsi : List MV → Option MV
  | [x, .raw (.ty T)] => match x.kd, kdOf T with
    | some a, some b => some (.bl (a.isa b))
    | _, _ => none
  | _ => none
theorem kdOf_name {T : String} {b : Kd} (h : kdOf T = some b) : T = b.name ∧ b ≠ .non := by
  unfold kdOf at h
  split at h <;> first | (cases h; exact ⟨rfl, by decide⟩) | cases h
theorem ty_of {Hk H : Hp} {x : MV} {v : V} {a : Kd} (ex : Ex Hk H) (r : RV K Hk x v) (h : x.kd = some a) : TyX K H v (.type a.name) := by
  cases x with
  | non => cases h; rw [RV.non.mp r]; exact .base .non
  | bl b => cases h; rw [RV.bl.mp r]; exact .base (.bl b)
  | int b => cases h; rw [RV.int.mp r]; exact .base (.int b)
  | str b => cases h; rw [RV.str.mp r]; exact .base (.str b)
  | tup xs =>
    cases h
    obtain ⟨p, vs, rfl, h1, _⟩ := RV.tup.mp r
    rcases ex_t ex h1 with (h1 | ⟨o, h1⟩) | ⟨o, its, n, h1, h2, _⟩
    · exact .base (.tup h1)
    · exact .fTuple h1
    · exact .kTuple h1 h2
  | lst xs =>
    cases h
    obtain ⟨p, vs, rfl, h1, _⟩ := RV.lst.mp r
    exact .base (.lst (ex _ _ h1))
  | _ => cases h
theorem cs_isi : CallS K bIsi (rIsi K) := by
  intro xs z vs Hk H Q e ex r q qn
  unfold bIsi at e
  split at e
  · rename_i x T
    split at e
    · rename_i a b e1 e2
      cases e
      obtain ⟨v, w, rfl, r1, r2⟩ := rvs2' r
      obtain ⟨et, nb⟩ := kdOf_name e2
      refine ⟨v, w, _, .type T, _, rfl, ?_, ty_of ex r1 e1, ?_, q _ (RV.bl.mpr rfl)⟩
      · rw [RV.raw.mp r2]; exact .ty T
      · subst et; exact kit_ty (kit_kd a b nb)
    · cases e
  · cases e
def intsOf : List MV → Option (List Int)
  | [] => some []
  | .int b :: r => (intsOf r).map (b :: ·)
  | _ => none
theorem ints_rv {H : Hp} : ∀ {xs : List MV} {bs : List Int} {vs : List V}, intsOf xs = some bs → RVs K H xs vs → vs = bs.map V.int
  | [], bs, vs, e, r => by cases e; rw [RVs.nil.mp r]; rfl
  | .int b :: r', bs, vs, e, r => by
    unfold intsOf at e
    cases h : intsOf r' with
    | none => rw [h] at e; cases e
    | some cs =>
      rw [h] at e
      cases e
      obtain ⟨v, us, rfl, q1, q2⟩ := RVs.cons.mp r
      rw [RV.int.mp q1, ints_rv h q2]; rfl
  | .non :: _, _, _, e, _ => by cases e
  | .bl _ :: _, _, _, e, _ => by cases e
  | .str _ :: _, _, _, e, _ => by cases e
  | .tup _ :: _, _, _, e, _ => by cases e
  | .lst _ :: _, _, _, e, _ => by cases e
  | .own _ :: _, _, _, e, _ => by cases e
  | .raw _ :: _, _, _, e, _ => by cases e
  | .scr _ :: _, _, _, e, _ => by cases e
  | .fnc _ :: _, _, _, e, _ => by cases e
  | .obj _ _ :: _, _, _, e, _ => by cases e
  | .dct _ _ :: _, _, _, e, _ => by cases e
  | .dow _ _ :: _, _, _, e, _ => by cases e
  | .dot _ _ :: _, _, _, e, _ => by cases e
def bSum : List MV → Option MV
  | [.lst xs] => (intsOf xs).map fun bs => .int bs.sum
  | _ => none
theorem cs_sum : CallS K bSum (rSum K) := by
  intro xs z vs Hk H Q e ex r q qn
  unfold bSum at e
  split at e
  · rename_i ys
    cases h : intsOf ys with
    | none => rw [h] at e; cases e
    | some bs =>
      rw [h] at e
      cases e
      obtain ⟨v, rfl, rv⟩ := rvs1 r
      obtain ⟨p1, ws, rfl, h1, s1⟩ := RV.lst.mp rv
      have ew := ints_rv h s1
      subst ew
      exact ⟨p1, bs, rfl, SqL.of (ex _ _ h1), q _ (RV.int.mpr rfl)⟩
  · cases e
end
section
variable {X : Cx} {c : Ct} {p pos : Pos} {e e2 : Expr} {es : List Expr} {a : MA}
theorem mb_len (hm : X.mg "len" = none) (ha : PA X [e] (rdA c a)) (hK : c.K = X.K := by rfl) (hg : Gl X "len" := by rfl) (he : starEach [e] X.env = (false, eval e X.env) :: starEach [] X.env := by rfl) (hpl : (backTo pos (starEach [] X.env)).any (·.1) = false := by rfl) : PE X (.Call (.Name "len" p) [e] [] pos) (rdE c (mBlt bLen a)) :=
  me_blt cr_lenM (by rw [← hK]; exact cs_len) hm PySem.boot_len ha hg (he := he) (hpl := hpl)
theorem mb_abs (hm : X.mg "abs" = none) (ha : PA X [e] (rdA c a)) (hg : Gl X "abs" := by rfl) (he : starEach [e] X.env = (false, eval e X.env) :: starEach [] X.env := by rfl) (hpl : (backTo pos (starEach [] X.env)).any (·.1) = false := by rfl) : PE X (.Call (.Name "abs" p) [e] [] pos) (rdE c (mBlt bAbs a)) :=
  me_blt call_abs cs_abs hm (by decide +kernel) ha hg (he := he) (hpl := hpl)
theorem mb_int (hm : X.mg "int" = none) (ha : PA X [e] (rdA c a)) (hg : Gl X "int" := by rfl) (he : starEach [e] X.env = (false, eval e X.env) :: starEach [] X.env := by rfl) (hpl : (backTo pos (starEach [] X.env)).any (·.1) = false := by rfl) : PE X (.Call (.Name "int" p) [e] [] pos) (rdE c (mBlt bInt a)) :=
  me_ty cr_intM cs_int hm (by decide +kernel) ha hg (he := he) (hpl := hpl)
theorem mb_str (hm : X.mg "str" = none) (ha : PA X [e] (rdA c a)) (hg : Gl X "str" := by rfl) (he : starEach [e] X.env = (false, eval e X.env) :: starEach [] X.env := by rfl) (hpl : (backTo pos (starEach [] X.env)).any (·.1) = false := by rfl) : PE X (.Call (.Name "str" p) [e] [] pos) (rdE c (mBlt bStr a)) :=
  me_ty call_str_int cs_str hm (by decide +kernel) ha hg (he := he) (hpl := hpl)
theorem mb_tuple (hm : X.mg "tuple" = none) (ha : PA X [e] (rdA c a)) (hK : c.K = X.K := by rfl) (hg : Gl X "tuple" := by rfl) (he : starEach [e] X.env = (false, eval e X.env) :: starEach [] X.env := by rfl) (hpl : (backTo pos (starEach [] X.env)).any (·.1) = false := by rfl) : PE X (.Call (.Name "tuple" p) [e] [] pos) (rdE c (mBlt bTuple a)) :=
  me_ty call_tuple_of (by rw [← hK]; exact cs_tuple) hm (by decide +kernel) ha hg (he := he) (hpl := hpl)
theorem mb_all (hc : X.calm = true) (hm : X.mg "all" = none) (ha : PA X [e] (rdA c a)) (hK : c.K = X.K := by rfl) (hg : Gl X "all" := by rfl) (he : starEach [e] X.env = (false, eval e X.env) :: starEach [] X.env := by rfl) (hpl : (backTo pos (starEach [] X.env)).any (·.1) = false := by rfl) : PE X (.Call (.Name "all" p) [e] [] pos) (rdE c (mBlt bAll a)) :=
  me_blt (cr_all hc) (by rw [← hK]; exact cs_all) hm (by decide +kernel) ha hg (he := he) (hpl := hpl)
theorem mb_isi (hm : X.mg "isinstance" = none) (ha : PA X [e, e2] (rdA c a)) (hK : c.K = X.K := by rfl) (hg : Gl X "isinstance" := by rfl) (he : starEach [e, e2] X.env = (false, eval e X.env) :: starEach [e2] X.env := by rfl) (hpl : (backTo pos (starEach [e2] X.env)).any (·.1) = false := by rfl) : PE X (.Call (.Name "isinstance" p) [e, e2] [] pos) (rdE c (mBlt bIsi a)) :=
  me_blt call_isi (by rw [← hK]; exact cs_isi) hm (by decide +kernel) ha hg (he := he) (hpl := hpl)
theorem mb_sum (hc : X.calm = true) (hm : X.mg "sum" = none) (ha : PA X [e] (rdA c a)) (hK : c.K = X.K := by rfl) (hg : Gl X "sum" := by rfl) (he : starEach [e] X.env = (false, eval e X.env) :: starEach [] X.env := by rfl) (hpl : (backTo pos (starEach [] X.env)).any (·.1) = false := by rfl) : PE X (.Call (.Name "sum" p) [e] [] pos) (rdE c (mBlt bSum a)) :=
  me_blt (cr_sum hc) (by rw [← hK]; exact cs_sum) hm (by decide +kernel) ha hg (he := he) (hpl := hpl)
end
end Tm
set_option Elab.async false
set_option linter.all false
set_option maxRecDepth 100000
set_option maxHeartbeats 2000000
namespace Tm
open PySem L2
open Evl (Ex ex_rd ex_l ex_t)
section
variable {X : Cx} {c : Ct} {p pos apos cpos : Pos} {e e2 : Expr} {es : List Expr} {a b : ME} {m : MA} {x : Str} {i : Nat}
def isOwn (ρ : Env) (i : Nat) : Bool := match ρ[i]? with | some (some (.own _)) => true | _ => false
theorem own_rs {F Hk H : Hp} {bp : List (Nat × Addr)} {σ : St} {ρ : Env} {i : Nat} (S : At c F Hk H bp σ ρ) (h : isOwn ρ i = true) : ∃ q vs, σ[i]? = some (some (.ref q)) ∧ H q = some (.lst vs) := by
  unfold isOwn at h
  split at h
  · rename_i xs e
    obtain ⟨q, vs, e1, e2, _⟩ := S.1.getOwn e
    exact ⟨q, vs, e1, e2⟩
  · cases h
theorem change_rs {F Hk H : Hp} {bp : List (Nat × Addr)} {σ : St} {ρ : Env} {i : Nat} {xs ys : List MV} {q : Addr} (S : At c F Hk H bp σ ρ) (h : ρ[i]? = some (some (.own xs))) (eq : σ[i]? = some (some (.ref q))) :
    ∃ vs, H q = some (.lst vs) ∧ RVs c.K Hk xs vs ∧ ∀ ws, RVs c.K Hk ys ws → RS c.K F Hk (upd H q (.lst ws)) bp σ (ρ.set i (some (.own ys))) := by
  obtain ⟨p, vs, e1, e2, e3, e4⟩ := S.1.change (ys := ys) h
  rw [eq] at e1
  cases e1
  exact ⟨vs, e2, e3, e4⟩
def mLm (f : List MV → List MV → Option (List MV × MV)) (i : Nat) (a : MA) : ME := fun ρ => if isOwn ρ i then (a ρ).bind fun ys ρ1 => match ρ1[i]? with
  | some (some (.own xs)) => (match f xs ys with | some (zs, z) => .ok (z, ρ1.set i (some (.own zs))) | none => .stuck)
  | _ => .stuck else .stuck
def LmS (K : PySem.W.Frag) (f : List MV → List MV → Option (List MV × MV)) (r : V → List V → Hp → VK → Prop) : Prop := ∀ (xs ys zs : List MV) (z : MV) (q : Addr) (vs us : List V) (Hk H : Hp) (Q : VK), f xs ys = some (zs, z) → Ex Hk H → H q = some (.lst vs) → RVs K Hk xs vs → RVs K Hk ys us →
  (∀ ws u, RVs K Hk zs ws → RV K Hk z u → Q u (upd H q (.lst ws))) → r (.ref q) us H Q
theorem rd_lm {f : List MV → List MV → Option (List MV × MV)} {r : V → List V → Hp → VK → Prop} (o : LmS c.K f r) {σ : St} {H : Hp} {Q : VK} (h : rdE c (mLm f i m) σ H Q) : tBM c.K "list" r (tVar i) (rdA c m) σ H Q := by
  obtain ⟨F, Hk, bp, ρ, S, h⟩ := h
  unfold mLm at h
  split at h
  · rename_i ho
    obtain ⟨q, vs0, eq, hq⟩ := own_rs S ho
    refine ⟨_, eq, .inl ⟨rfl, _, SqL.of hq⟩, ?_⟩
    refine rdAw (bA postE S h) fun us H1 ⟨Hk1, ys, ρ1, x1, S1, r1, h1⟩ => ?_
    split at h1
    · rename_i xs ex
      split at h1
      · rename_i zs z ef
        obtain ⟨vs, g1, g2, g3⟩ := change_rs (ys := zs) S1 ex eq
        exact o xs ys zs z q vs us Hk1 H1 Q ef S1.1.ex g1 g2 r1 fun ws u r2 r3 => h1 _ _ u (Ex.refl _) (g3 ws r2) r3
      · exact h1.elim
    · exact h1.elim
  · exact h.elim
def lmAppend : List MV → List MV → Option (List MV × MV)
  | xs, [y] => if decide (xs.length < sizeLine) then some (xs ++ [y], .non) else none
  | _, _ => none
theorem ls_append {K : PySem.W.Frag} : LmS K lmAppend rAppend := by
  intro xs ys zs z q vs us Hk H Q e ex hq r1 r2 k
  unfold lmAppend at e
  split at e
  · split at e
    · rename_i h
      cases e
      obtain ⟨v, rfl, rv⟩ := rvs1 r2
      refine ⟨q, vs, v, rfl, rfl, hq, by rw [r1.length]; exact of_decide_eq_true h, k _ _ (r1.append ?_) (RV.non.mpr rfl)⟩
      exact RVs.cons.mpr ⟨v, [], rfl, rv, RVs.nil.mpr rfl⟩
    · cases e
  · cases e
theorem me_lm1 {f : List MV → List MV → Option (List MV × MV)} {r : V → List V → Hp → VK → Prop} {id : String} {name : Str} (o : LmS c.K f r) (slot : Slot "list" name id) (hty : typeOf (.builtin id) = pure (.type "method_descriptor")) (hm : MtR X id r) (hN : X.N[i]? = some x) (hv : Vis X.env.scope x) (ha : PA X (e :: es) (rdA c m)) (hK : c.K = X.K := by rfl)
    (hbase : attributeBase (.Name x p) name X.env (eval (.Name x p) X.env) = eval (.Name x p) X.env := by rfl)
    (hfew : ((backTo cpos (starEach (e :: es) X.env)).all (fun x => !x.1) && (backToKw cpos (keywordEach [] X.env)).all (fun x => x.1.isSome)
      && decide ((e :: es).length + ([] : List Keyword).length + (if ([] : List Keyword).isEmpty then 0 else 1) < 30)) = true := by rfl)
    (hline : (apos.endLine == cpos.line) = true := by rfl) (hs : starEach (e :: es) X.env = (false, eval e X.env) :: starEach es X.env := by rfl) (hplain : (backTo cpos (starEach es X.env)).any (·.1) = false := by rfl)
    (hd : (x == ("__debug__" : Str)) = false := by decide) (hcd : (x == ("__classdict__" : Str)) = false := by decide) : PE X (.Call (.Attribute (.Name x p) name apos) (e :: es) [] cpos) (rdE c (mLm f i m)) :=
  PEw (pe_bm PySem.F.plainAttrs_list slot hty hm (pe_var hN hv hd hcd) ha hbase hfew hline hs hplain) fun σ H Q h => by
    have := rd_lm o h
    rw [hK] at this
    exact this
end
end Tm
set_option Elab.async false
set_option linter.all false
set_option maxRecDepth 100000
set_option maxHeartbeats 2000000
namespace Tm
open PySem L2
open Evl (Ex ex_rd ex_l ex_t)
inductive Tgt where
  | nm (i : Nat) | tp (is : List Nat)
def gsOf : List Nat → TGs
  | [] => gNil
  | i :: is => gCons (gName i) (gsOf is)
def gOf (K : PySem.W.Frag) : Tgt → TG
  | .nm i => gName i
  | .tp is => gTup K is.length (gsOf is)
def setAll : List Nat → List MV → Env → Option Env
  | [], [], ρ => some ρ
  | i :: is, x :: xs, ρ => if i < ρ.length then setAll is xs (ρ.set i (some x)) else none
  | _, _, _ => none
def setT (t : Tgt) (x : MV) (ρ : Env) : Option Env := match t with
  | .nm i => if i < ρ.length then some (ρ.set i (some x)) else none
  | .tp is => match x with
    | .tup xs => if xs.length = is.length then setAll is xs ρ else none
    | _ => none
def Tgt.slots : Tgt → List Nat
  | .nm i => [i]
  | .tp is => is
theorem wipe_get (σ : St) : ∀ (vs : List Nat) (j : Nat), (wipe σ vs)[j]? = if j ∈ vs ∧ j < σ.length then some none else σ[j]?
  | [], j => by simp [wipe]
  | v :: vs, j => by
    unfold wipe
    by_cases e : v = j
    · subst e
      by_cases hl : v < σ.length
      · rw [List.getElem?_set_self (by rw [wipe_length]; exact hl), if_pos ⟨by simp, hl⟩]
      · rw [if_neg (by intro h; exact hl h.2), List.getElem?_eq_none (by rw [List.length_set, wipe_length]; omega), List.getElem?_eq_none (by omega)]
    · rw [List.getElem?_set_ne e, wipe_get σ vs j]
      by_cases hm : j ∈ vs ∧ j < σ.length
      · rw [if_pos hm, if_pos ⟨List.mem_cons_of_mem _ hm.1, hm.2⟩]
      · rw [if_neg hm, if_neg (fun h => hm ⟨(List.mem_cons.mp h.1).resolve_left (Ne.symm e), h.2⟩)]
theorem wipe_set {σ : St} {vs : List Nat} {i : Nat} {y : Option V} (h : i ∈ vs) : wipe (σ.set i y) vs = wipe σ vs := by
  refine List.ext_getElem? fun j => ?_
  rw [wipe_get, wipe_get, List.length_set]
  by_cases hm : j ∈ vs ∧ j < σ.length
  · rw [if_pos hm, if_pos hm]
  · rw [if_neg hm, if_neg hm]
    by_cases e : i = j
    · subst e
      have : σ.length ≤ i := Nat.le_of_not_lt fun z => hm ⟨h, z⟩
      rw [List.getElem?_eq_none (by simpa using this), List.getElem?_eq_none this]
    · rw [List.getElem?_set_ne e]
theorem wipe_wipe (σ : St) (vs : List Nat) : wipe (wipe σ vs) vs = wipe σ vs := by
  refine List.ext_getElem? fun j => ?_
  rw [wipe_get, wipe_length, wipe_get]
  by_cases hm : j ∈ vs ∧ j < σ.length
  · rw [if_pos hm, if_pos hm]
  · rw [if_neg hm]
def wipeM (ρ : Env) : List Nat → Env
  | [] => ρ
  | v :: vs => (wipeM ρ vs).set v none
theorem wipeM_len (ρ : Env) : ∀ vs : List Nat, (wipeM ρ vs).length = ρ.length
  | [] => rfl
  | v :: vs => by unfold wipeM; rw [List.length_set, wipeM_len ρ vs]
theorem wipeM_get (σ : Env) : ∀ (vs : List Nat) (j : Nat), (wipeM σ vs)[j]? = if j ∈ vs ∧ j < σ.length then some none else σ[j]?
  | [], j => by simp [wipeM]
  | v :: vs, j => by
    unfold wipeM
    by_cases e : v = j
    · subst e
      by_cases hl : v < σ.length
      · rw [List.getElem?_set_self (by rw [wipeM_len]; exact hl), if_pos ⟨by simp, hl⟩]
      · rw [if_neg (by intro h; exact hl h.2), List.getElem?_eq_none (by rw [List.length_set, wipeM_len]; omega), List.getElem?_eq_none (by omega)]
    · rw [List.getElem?_set_ne e, wipeM_get σ vs j]
      by_cases hm : j ∈ vs ∧ j < σ.length
      · rw [if_pos hm, if_pos ⟨List.mem_cons_of_mem _ hm.1, hm.2⟩]
      · rw [if_neg hm, if_neg (fun h => hm ⟨(List.mem_cons.mp h.1).resolve_left (Ne.symm e), h.2⟩)]
def perAt (ρ : Env) (vs : List Nat) : Bool := vs.all fun i => match ρ[i]? with
  | some (some x) => x.per
  | _ => true
def backM (ρ ρ' : Env) (vs : List Nat) : Env := vs.foldl (fun r i => r.set i ((ρ[i]?).join)) ρ'
section
variable {K : PySem.W.Frag} {F Hk H : Hp} {bp : List (Nat × Addr)} {σ : St} {ρ : Env}
theorem SL.setNone {ow : Nat → List Addr} (S : SL K F Hk H ow σ ρ) {i : Nat} : SL K F Hk H (put ow i []) (σ.set i none) (ρ.set i none) := by
  refine ⟨fun j y h => ?_, fun j a h => ?_, fun j h => ?_, fun j k a hjk h => ?_⟩
  · rcases set_get h with ⟨_, e⟩ | ⟨ne, e⟩
    · cases e
    · obtain ⟨u, e1, e2⟩ := S.s j y e
      exact ⟨u, by rw [List.getElem?_set_ne (Ne.symm ne)]; exact e1, by rw [put_ne ne]; exact e2⟩
  · by_cases e : j = i
    · rw [e, put_same] at h; cases h
    · rw [put_ne e] at h; exact S.f j a h
  · by_cases e : j = i
    · rw [e, put_same] at h; exact (h rfl).elim
    · rw [put_ne e] at h; rw [List.length_set]; exact S.w j h
  · by_cases e : j = i
    · rw [e, put_same] at h; cases h
    · rw [put_ne e] at h
      by_cases e2 : k = i
      · rw [e2, put_same]; simp
      · rw [put_ne e2]; exact S.d j k a hjk h
theorem RS.setNone (S : RS K F Hk H bp σ ρ) {i : Nat} (hb : ∀ q ∈ bp, q.1 ≠ i) : RS K F Hk H bp (σ.set i none) (ρ.set i none) := by
  obtain ⟨ow, s⟩ := S.ow
  exact ⟨by simp [S.len], S.ex, S.fr, S.frk, ⟨_, s.setNone⟩, fun q hq => by rw [List.getElem?_set_ne (Ne.symm (hb q hq))]; exact S.bor q hq⟩
theorem RS.wipe (S : RS K F Hk H bp σ ρ) : ∀ vs : List Nat, (∀ q ∈ bp, q.1 ∉ vs) → RS K F Hk H bp (L2.wipe σ vs) (wipeM ρ vs)
  | [], _ => S
  | v :: vs, hb => (RS.wipe S vs fun q hq z => hb q hq (List.mem_cons_of_mem _ z)).setNone fun q hq z => hb q hq (by rw [z]; simp)
theorem RS.back (S : RS K F Hk H bp (L2.wipe σ vs) (wipeM ρ' vs)) (S0 : ∀ i ∈ vs, ∀ x, ρ[i]? = some (some x) → ∃ v, σ[i]? = some (some v) ∧ RV K Hk x v) (hl : ρ.length = ρ'.length) (hl2 : σ.length = ρ.length) (hb : ∀ q ∈ bp, q.1 ∉ vs) : RS K F Hk H bp σ (backM ρ ρ' vs) := by
  have gb : ∀ (vs : List Nat) (r : Env) (j : Nat), r.length = ρ.length → (vs.foldl (fun r i => r.set i ((ρ[i]?).join)) r)[j]? = if j ∈ vs ∧ j < ρ.length then some ((ρ[j]?).join) else r[j]? := fun vs => by
    induction vs with
    | nil => intro r j _; simp
    | cons v vs ih =>
      intro r j hr
      rw [List.foldl_cons, ih _ j (by rw [List.length_set]; exact hr)]
      by_cases hm : j ∈ vs ∧ j < ρ.length
      · rw [if_pos hm, if_pos ⟨List.mem_cons_of_mem _ hm.1, hm.2⟩]
      · rw [if_neg hm]
        by_cases e : v = j
        · subst e
          by_cases hl : v < ρ.length
          · rw [List.getElem?_set_self (by rw [hr]; exact hl), if_pos ⟨by simp, hl⟩]
          · rw [if_neg (by intro h; exact hl h.2), List.getElem?_eq_none (by rw [List.length_set, hr]; omega), List.getElem?_eq_none (by omega)]
        · rw [List.getElem?_set_ne e, if_neg (fun h => hm ⟨(List.mem_cons.mp h.1).resolve_left (Ne.symm e), h.2⟩)]
  have gl : ∀ (vs : List Nat) (r : Env), (vs.foldl (fun r i => r.set i ((ρ[i]?).join)) r).length = r.length := fun vs => by
    induction vs with
    | nil => intro r; rfl
    | cons v vs ih => intro r; rw [List.foldl_cons, ih, List.length_set]
  obtain ⟨ow, s⟩ := S.ow
  have lb : (backM ρ ρ' vs).length = ρ.length := by unfold backM; rw [gl, ← hl]
  refine ⟨by rw [lb, hl2], S.ex, S.fr, S.frk, ⟨fun j => if j ∈ vs then [] else ow j, fun j y h => ?_, fun j a h => ?_, fun j h => ?_, fun j k a hjk h => ?_⟩, fun q hq => ?_⟩
  · unfold backM at h
    rw [gb vs ρ' j hl.symm] at h
    by_cases hm : j ∈ vs ∧ j < ρ.length
    · rw [if_pos hm] at h
      have e : ρ[j]? = some (some y) := by
        cases er : ρ[j]? with
        | none => rw [er] at h; cases h
        | some o => rw [er] at h; cases o with
          | none => cases h
          | some z => cases h; rfl
      obtain ⟨v, e1, r⟩ := S0 j hm.1 y e
      exact ⟨v, e1, by rw [if_pos hm.1]; exact r.ov⟩
    · rw [if_neg hm] at h
      have nj : j ∉ vs := fun z => hm ⟨z, by rw [hl]; exact lt_get h⟩
      obtain ⟨v, e1, o⟩ := s.s j y (by rw [wipeM_get, if_neg (fun z => nj z.1)]; exact h)
      rw [wipe_get, if_neg (fun z => nj z.1)] at e1
      exact ⟨v, e1, by rw [if_neg nj]; exact o⟩
  · by_cases e : j ∈ vs
    · rw [if_pos e] at h; cases h
    · rw [if_neg e] at h; exact s.f j a h
  · by_cases e : j ∈ vs
    · rw [if_pos e] at h; exact (h rfl).elim
    · rw [if_neg e] at h; have := s.w j h; rw [wipeM_len] at this; rw [lb, hl]; exact this
  · by_cases e : j ∈ vs
    · rw [if_pos e] at h; cases h
    · rw [if_neg e] at h
      by_cases e2 : k ∈ vs
      · rw [if_pos e2]; simp
      · rw [if_neg e2]; exact s.d j k a hjk h
  · have := S.bor q hq
    rw [wipe_get, if_neg (fun z => hb q hq z.1)] at this
    exact this
end
section
variable {X : Cx} {c : Ct}
theorem gs_rd {F Hk H : Hp} {bp : List (Nat × Addr)} {vs0 : List Nat} (hb : ∀ q ∈ bp, q.1 ∉ vs0) : ∀ (is : List Nat) (xs : List MV) (ws : List V) (σ : St) (ρ ρ' : Env) (Q : St → Hp → Prop), (∀ i ∈ is, i ∈ vs0) → RS c.K F Hk H bp σ ρ → RVs c.K Hk xs ws → setAll is xs ρ = some ρ' →
    (∀ σ', RS c.K F Hk H bp σ' ρ' → wipe σ' vs0 = wipe σ vs0 → Q σ' H) → gsOf is ws σ H Q
  | [], [], ws, σ, ρ, ρ', Q, _, S, r, e, k => by
    cases e
    exact ⟨RVs.nil.mp r, k σ S rfl⟩
  | [], x :: xs, ws, σ, ρ, ρ', Q, _, S, r, e, k => by cases e
  | i :: is, [], ws, σ, ρ, ρ', Q, _, S, r, e, k => by cases e
  | i :: is, x :: xs, ws, σ, ρ, ρ', Q, hi, S, r, e, k => by
    obtain ⟨v, us, rfl, r1, r2⟩ := RVs.cons.mp r
    unfold setAll at e
    split at e
    · rename_i hl
      have hm := hi i (by simp)
      refine ⟨v, us, rfl, ?_⟩
      refine gs_rd hb is xs us _ _ ρ' Q (fun j hj => hi j (List.mem_cons_of_mem _ hj)) (S.set hl r1 fun q hq z => hb q hq (z ▸ hm)) r2 e fun σ' S' w => k σ' S' (by rw [w, wipe_set hm])
    · cases e
theorem g_rd {F Hk H : Hp} {bp : List (Nat × Addr)} {vs0 : List Nat} (hb : ∀ q ∈ bp, q.1 ∉ vs0) {t : Tgt} {x : MV} {v : V} {σ : St} {ρ ρ' : Env} {Q : St → Hp → Prop} (hi : ∀ i ∈ t.slots, i ∈ vs0) (S : RS c.K F Hk H bp σ ρ) (r : RV c.K Hk x v) (e : setT t x ρ = some ρ')
    (k : ∀ σ', RS c.K F Hk H bp σ' ρ' → wipe σ' vs0 = wipe σ vs0 → Q σ' H) : gOf c.K t v σ H Q := by
  cases t with
  | nm i =>
    have e : (if i < ρ.length then some (ρ.set i (some x)) else none) = some ρ' := e
    split at e
    · rename_i hl
      cases e
      have hm := hi i (by simp [Tgt.slots])
      exact k _ (S.set hl r fun q hq z => hb q hq (z ▸ hm)) (wipe_set hm)
    · cases e
  | tp is =>
    cases x with
    | tup xs =>
      have e : (if xs.length = is.length then setAll is xs ρ else none) = some ρ' := e
      split at e
      · rename_i hl
        obtain ⟨a, ws, rfl, h1, s1⟩ := RV.tup.mp r
        exact ⟨a, ws, rfl, ex_t S.ex h1, by rw [s1.length, hl], gs_rd hb is xs ws σ ρ ρ' Q hi S s1 e k⟩
      · cases e
    | _ => cases e
def Res.b0 {α β : Type} (r : Res (α × Env)) (f : α → Env → Res (β × Env)) : Res (β × Env) :=
  match r with
  | .ok (x, ρ) => f x ρ
  | _ => .stuck
def mLcLoop (g : Tgt) (t : MT) (e : ME) (vs : List Nat) : List MV → List MV → Env → Res (List MV × Env)
  | [], acc, ρ => .ok (acc, ρ)
  | x :: xs, acc, ρ => match setT g x (wipeM ρ vs) with
    | none => .stuck
    | some ρ1 => (t ρ1).b0 fun b ρ2 => if b then (e ρ2).b0 fun y ρ3 => (if acc.length < sizeLine ∧ ρ3.length = ρ.length then mLcLoop g t e vs xs (acc ++ [y]) ρ3 else .stuck) else if ρ2.length = ρ.length then mLcLoop g t e vs xs acc ρ2 else .stuck
def mYes : MT := fun ρ => .ok (true, ρ)
def mLcO (it : MI) (g : Tgt) (t : MT) (e : ME) (vs : List Nat) : ME := fun ρ => (it ρ).bind fun xs ρ1 => if perAt ρ1 vs then (mLcLoop g t e vs xs [] ρ1).b0 fun ys ρ2 => .ok (.own ys, backM ρ1 ρ2 vs) else .stuck
theorem b0E {F Hk H : Hp} {bp : List (Nat × Addr)} {σ : St} {ρ : Env} {β : Type} {P : Hp → Res (β × Env) → Prop} (st : ∀ Hk, ¬ P Hk .stuck) (mo : ∀ Hk Hk' r, Ex Hk Hk' → P Hk r → P Hk' r) {a : ME} {k : MV → Env → Res (β × Env)} (S : At c F Hk H bp σ ρ) (h : P Hk ((a ρ).b0 k)) :
    rdE c a σ H fun v H1 => ∃ Hk1 x ρ1, Ex Hk Hk1 ∧ At c F Hk1 H1 bp σ ρ1 ∧ RV c.K Hk1 x v ∧ P Hk1 (k x ρ1) := by
  refine ⟨F, Hk, bp, ρ, S, ?_⟩
  cases e : a ρ with
  | stuck => rw [e] at h; exact st _ h
  | exc x ρ' => rw [e] at h; exact (st _ h).elim
  | ok q =>
    rw [e] at h
    exact fun Hk1 H1 v x1 S1 r1 => ⟨Hk1, q.1, q.2, x1, ⟨S1, S.2⟩, r1, mo _ _ _ x1 h⟩
theorem b0T {F Hk H : Hp} {bp : List (Nat × Addr)} {σ : St} {ρ : Env} {β : Type} {P : Hp → Res (β × Env) → Prop} (st : ∀ Hk, ¬ P Hk .stuck) (mo : ∀ Hk Hk' r, Ex Hk Hk' → P Hk r → P Hk' r) {a : MT} {k : Bool → Env → Res (β × Env)} (S : At c F Hk H bp σ ρ) (h : P Hk ((a ρ).b0 k)) :
    rdT c a σ H fun b H1 => ∃ Hk1 ρ1, Ex Hk Hk1 ∧ At c F Hk1 H1 bp σ ρ1 ∧ P Hk1 (k b ρ1) := by
  refine ⟨F, Hk, bp, ρ, S, ?_⟩
  cases e : a ρ with
  | stuck => rw [e] at h; exact st _ h
  | exc x ρ' => rw [e] at h; exact (st _ h).elim
  | ok q =>
    rw [e] at h
    exact fun Hk1 H1 x1 S1 => ⟨Hk1, q.2, x1, ⟨S1, S.2⟩, mo _ _ _ x1 h⟩
def okB (c : Ct) (F Hk : Hp) (bp : List (Nat × Addr)) (σ : St) (Q : VK) (ρ0 : Env) (vs : List Nat) : Res (List MV × Env) → Prop
  | .ok (ys, ρ') => okO c F Hk bp σ Q (.ok (.own ys, backM ρ0 ρ' vs))
  | _ => False
theorem okB.mono {F Hk Hk' : Hp} {bp : List (Nat × Addr)} {σ : St} {Q : VK} {ρ0 : Env} {vs : List Nat} {r : Res (List MV × Env)} (x : Ex Hk Hk') (h : okB c F Hk bp σ Q ρ0 vs r) : okB c F Hk' bp σ Q ρ0 vs r := by
  cases r with
  | ok a => exact okO.mono (r := .ok (.own a.1, backM ρ0 a.2 vs)) x h
  | exc e ρ => exact h
  | stuck => exact h
theorem RS.inFr {K : PySem.W.Frag} {F Hk H : Hp} {bp : List (Nat × Addr)} {σ : St} {ρ : Env} {D : Addr} {xs : List V} (S : RS K F Hk H bp σ ρ) (h : H D = none) : RS K (upd F D (.lst xs)) Hk (upd H D (.lst xs)) bp σ ρ := by
  have S' := S.more (o := .lst xs) h
  obtain ⟨ow, s⟩ := S.ow
  refine ⟨S.len, S'.ex, S.fr.both h, fun a o ha => ?_, ⟨ow, fun i x hx => ?_, fun i a ha => ?_, s.w, s.d⟩, S.bor⟩
  · by_cases e : a = D
    · rw [e]; exact S.ex.back h
    · rw [upd_ne e] at ha; exact S.frk a o ha
  · obtain ⟨v, ev, o⟩ := s.s i x hx
    exact ⟨v, ev, o.move (Ex.refl _) fun a ha u hu => by rw [upd_ne (ne_of_none hu h)]; exact hu⟩
  · obtain ⟨g1, g2, o, g3⟩ := s.f i a ha
    have ne := ne_of_none g3 h
    exact ⟨g1, by rw [upd_ne ne]; exact g2, o, by rw [upd_ne ne]; exact g3⟩
theorem RS.grow {K : PySem.W.Frag} {F Hk H : Hp} {bp : List (Nat × Addr)} {σ : St} {ρ : Env} {D : Addr} {xs ys : List V} (S : RS K (upd F D (.lst xs)) Hk H bp σ ρ) : RS K (upd F D (.lst ys)) Hk (upd H D (.lst ys)) bp σ ρ := by
  have hk : Hk D = none := S.frk D _ upd_same
  obtain ⟨ow, s⟩ := S.ow
  have nd : ∀ i a, a ∈ ow i → a ≠ D := fun i a ha e => by
    have := (s.f i a ha).2.1
    rw [e, upd_same] at this
    cases this
  refine ⟨S.len, S.ex.mut hk, fun a o ha => ?_, fun a o ha => ?_, ⟨ow, fun i x hx => ?_, fun i a ha => ?_, s.w, s.d⟩, S.bor⟩
  · by_cases e : a = D
    · subst e; rw [upd_same] at ha ⊢; exact ha
    · rw [upd_ne e] at ha ⊢; exact S.fr a o (by rw [upd_ne e]; exact ha)
  · by_cases e : a = D
    · rw [e]; exact hk
    · rw [upd_ne e] at ha; exact S.frk a o (by rw [upd_ne e]; exact ha)
  · obtain ⟨v, ev, o⟩ := s.s i x hx
    exact ⟨v, ev, o.move (Ex.refl _) fun a ha u hu => by rw [upd_ne (nd i a ha)]; exact hu⟩
  · obtain ⟨g1, g2, o, g3⟩ := s.f i a ha
    exact ⟨g1, by have := nd i a ha; rw [upd_ne this] at g2 ⊢; exact g2, o, by rw [upd_ne (nd i a ha)]; exact g3⟩
theorem RS.outFr {K : PySem.W.Frag} {F Hk H : Hp} {bp : List (Nat × Addr)} {σ : St} {ρ : Env} {D : Addr} {vs : List V} {xs : List MV} (S : RS K (upd F D (.lst vs)) Hk H bp σ ρ) (hF : F D = none) (r : RVs K Hk xs vs) : RS K F Hk H bp (σ ++ [some (.ref D)]) (ρ ++ [some (.own xs)]) := by
  have hk : Hk D = none := S.frk D _ upd_same
  have hH : H D = some (.lst vs) := S.fr D _ upd_same
  have up : ∀ a o, F a = some o → upd F D (.lst vs) a = some o := fun a o ha => by rw [upd_ne (ne_of_none ha hF)]; exact ha
  obtain ⟨ow, s⟩ := S.ow
  have nd : ∀ i a, a ∈ ow i → a ≠ D := fun i a ha e => by
    have := (s.f i a ha).2.1
    rw [e, upd_same] at this
    cases this
  have s' : SL K F Hk H ow σ ρ := ⟨s.s, fun i a ha => by
    obtain ⟨g1, g2, g3⟩ := s.f i a ha
    exact ⟨g1, by rw [upd_ne (nd i a ha)] at g2; exact g2, g3⟩, s.w, s.d⟩
  refine ⟨by simp [S.len], S.ex, fun a o ha => S.fr a o (up a o ha), fun a o ha => S.frk a o (up a o ha), ⟨_, s'.push S.len (A := [D]) (OV.own.mpr ⟨D, vs, rfl, rfl, hH, r⟩) (fun a ha => ?_) (fun i a ha hi => ?_)⟩, S.bor_app _⟩
  · simp at ha; subst ha; exact ⟨hk, hF⟩
  · simp at ha; subst ha; exact nd i a hi rfl
theorem rd_lc {it : MI} {g : Tgt} {t : MT} {e : ME} {vs : List Nat} {σ : St} {H : Hp} {Q : VK} (hg : ∀ i ∈ g.slots, i ∈ vs) (hbs : ∀ i ∈ vs, c.bs.contains i = false) (h : rdO c (mLcO it g t e vs) σ H Q) : tLc (rdI c it) (gOf c.K g) (rdT c t) (rdE c e) vs σ H Q := by
  obtain ⟨F, Hk, bp, ρ, S, h⟩ := h
  have hb : ∀ q ∈ bp, q.1 ∉ vs := fun q hq z => nb S.2.1 (hbs _ z) q hq rfl
  refine ⟨F, Hk, bp, ρ, S, ?_⟩
  have h : okO c F Hk bp σ Q ((it ρ).bind fun xs ρ1 => if perAt ρ1 vs then (mLcLoop g t e vs xs [] ρ1).b0 fun ys ρ2 => .ok (.own ys, backM ρ1 ρ2 vs) else .stuck) := h
  cases ei : it ρ with
  | stuck => rw [ei] at h; exact h
  | exc x ρ' => rw [ei] at h; exact h
  | ok p =>
    obtain ⟨xs, ρ1⟩ := p
    rw [ei] at h
    intro Hk1 H1 J x1 S1 wk D hD
    have h : okO c F Hk1 bp σ Q (if perAt ρ1 vs then (mLcLoop g t e vs xs [] ρ1).b0 fun ys ρ2 => .ok (.own ys, backM ρ1 ρ2 vs) else .stuck) := okO.mono x1 h
    split at h
    · rename_i hper
      have h : okB c F Hk1 bp σ Q ρ1 vs (mLcLoop g t e vs xs [] ρ1) := by
        cases e2 : mLcLoop g t e vs xs [] ρ1 with
        | ok q => rw [e2] at h; exact h
        | exc x r => rw [e2] at h; exact h
        | stuck => rw [e2] at h; exact h
      have fD : F D = none := by
        cases e : F D with
        | none => rfl
        | some o => have := S1.fr D o e; rw [hD] at this; cases this
      have p0 : ∀ i ∈ vs, ∀ x, ρ1[i]? = some (some x) → ∃ v, σ[i]? = some (some v) ∧ RV c.K Hk1 x v := fun i hi x hx => by
        have z := List.all_eq_true.mp hper i hi
        rw [hx] at z
        exact S1.get hx z
      refine ⟨fun i m H' => m = xs.length - i ∧ i ≤ xs.length ∧ ∃ Hk' ρ' acc ws, Ex Hk1 Hk' ∧ RS c.K (upd F D (.lst ws)) Hk' H' bp (wipe σ vs) (wipeM ρ' vs) ∧ RVs c.K Hk' acc ws ∧ ρ'.length = ρ1.length ∧ okB c F Hk' bp σ Q ρ1 vs (mLcLoop g t e vs (xs.drop i) acc ρ'),
        ⟨xs.length, by simp, Nat.zero_le _, Hk1, ρ1, [], [], Ex.refl _, (S1.wipe vs hb).inFr hD, RVs.nil.mpr rfl, rfl, h⟩, ?_⟩
      rintro i m H' ⟨rfl, hi, Hk', ρ', acc, ws, x', S', ra, hl, h'⟩
      by_cases hlt : i < xs.length
      · refine .inr ⟨wk.go i H' (x'.trans S'.ex) hlt, fun H2 => ∃ Hk2 ρ2 acc2 ws2, Ex Hk1 Hk2 ∧ RS c.K (upd F D (.lst ws2)) Hk2 H2 bp (wipe σ vs) (wipeM ρ2 vs) ∧ RVs c.K Hk2 acc2 ws2 ∧ ρ2.length = ρ1.length ∧ okB c F Hk2 bp σ Q ρ1 vs (mLcLoop g t e vs (xs.drop (i + 1)) acc2 ρ2),
          fun H2 z => ⟨xs.length - (i + 1), by omega, rfl, hlt, z⟩, fun x H2 y => ?_⟩
        obtain ⟨z, ez, hz⟩ := wk.yld i H' x H2 (x'.trans S'.ex) hlt y
        have ed : xs.drop i = z :: xs.drop (i + 1) := by
          rw [List.drop_eq_getElem_cons hlt]
          rw [List.getElem?_eq_getElem hlt] at ez
          cases ez; rfl
        rw [ed] at h'
        have st : ∀ Hk, ¬ okB c F Hk bp σ Q ρ1 vs .stuck := fun _ f => f
        have mo : ∀ Hk Hk' r, Ex Hk Hk' → okB c F Hk bp σ Q ρ1 vs r → okB c F Hk' bp σ Q ρ1 vs r := fun _ _ _ x h => okB.mono x h
        have fin : ∀ Hk3, Ex Hk' Hk3 → RS c.K (upd F D (.lst ws)) Hk3 H2 bp (wipe σ vs) (wipeM ρ' vs) → RV c.K Hk3 z x →
            gOf c.K g x (wipe σ vs) H2 fun σ2 H2 => wipe σ2 vs = wipe σ vs ∧ rdT c t σ2 H2 fun b H3 => if b = true then rdE c e σ2 H3 fun y H4 => ∃ acc, H4 D = some (.lst acc) ∧ acc.length < sizeLine ∧
              (∃ Hk2 ρ2 acc2 ws2, Ex Hk1 Hk2 ∧ RS c.K (upd F D (.lst ws2)) Hk2 (upd H4 D (.lst (acc ++ [y]))) bp (wipe σ vs) (wipeM ρ2 vs) ∧ RVs c.K Hk2 acc2 ws2 ∧ ρ2.length = ρ1.length ∧ okB c F Hk2 bp σ Q ρ1 vs (mLcLoop g t e vs (xs.drop (i + 1)) acc2 ρ2)) else
              ∃ Hk2 ρ2 acc2 ws2, Ex Hk1 Hk2 ∧ RS c.K (upd F D (.lst ws2)) Hk2 H3 bp (wipe σ vs) (wipeM ρ2 vs) ∧ RVs c.K Hk2 acc2 ws2 ∧ ρ2.length = ρ1.length ∧ okB c F Hk2 bp σ Q ρ1 vs (mLcLoop g t e vs (xs.drop (i + 1)) acc2 ρ2) := fun Hk3 x3 S3 r3 => by
          have h' := okB.mono x3 h'
          unfold mLcLoop at h'
          cases eg : setT g z (wipeM ρ' vs) with
          | none => rw [eg] at h'; exact h'.elim
          | some ρ3 =>
            rw [eg] at h'
            refine g_rd hb hg S3 r3 eg fun σ2 S4 w2 => ⟨by rw [w2, wipe_wipe], ?_⟩
            have w2' : wipe σ2 vs = wipe σ vs := by rw [w2, wipe_wipe]
            refine rdTw (b0T st mo ⟨S4, S.2.1, c.Jm _ _ _ (Ex.new fD) S.2.2⟩ h') fun b H3 ⟨Hk4, ρ4, x4, S5, h5⟩ => ?_
            cases b with
            | true =>
              rw [if_pos rfl] at h5 ⊢
              refine rdw (b0E st mo S5 h5) fun y H4 ⟨Hk5, yy, ρ5, x5, S6, r6, h6⟩ => ?_
              split at h6
              · rename_i hz
                have ra' := ra.mono (x3.trans (x4.trans x5))
                refine ⟨ws, S6.1.fr D _ upd_same, by rw [ra'.length]; exact hz.1, Hk5, ρ5, acc ++ [yy], ws ++ [y], x'.trans (x3.trans (x4.trans x5)), ?_, ra'.append (RVs.cons.mpr ⟨y, [], rfl, r6, RVs.nil.mpr rfl⟩), by rw [hz.2, hl], h6⟩
                have := (S6.1.wipe vs hb)
                rw [w2'] at this
                exact this.grow
              · exact h6.elim
            | false =>
              rw [if_neg (by decide)] at h5 ⊢
              split at h5
              · rename_i hz
                refine ⟨Hk4, ρ4, acc, ws, x'.trans (x3.trans x4), ?_, ra.mono (x3.trans x4), by rw [hz, hl], h5⟩
                have := (S5.1.wipe vs hb)
                rw [w2'] at this
                exact this
              · exact h5.elim
        rcases hz with ⟨rfl, r⟩ | ⟨p, us, ys, hp, rfl, rfl, rfl, r⟩
        · exact fin Hk' (Ex.refl _) S' (RV.mono x' _ _ r)
        · have xn := Ex.new (o := .tup us) (S'.ex.back hp)
          exact fin _ xn (S'.new hp) (RV.tup.mpr ⟨p, us, rfl, SqT.of upd_same, r.mono (x'.trans xn)⟩)
      · have e : i = xs.length := by omega
        subst e
        rw [List.drop_length] at h'
        refine .inl ⟨wk.stop H' (x'.trans S'.ex), ?_⟩
        have out := S'.outFr fD ra
        have bk : RS c.K (upd F D (.lst ws)) Hk' H' bp σ (backM ρ1 ρ' vs) := RS.back S' (fun i hi x hx => by
          obtain ⟨v, ev, rv⟩ := p0 i hi x hx
          exact ⟨v, ev, RV.mono x' _ _ rv⟩) hl.symm S1.len hb
        exact h' _ _ _ (Ex.refl _) (bk.outFr fD ra)
    · exact h.elim
end
end Tm
set_option Elab.async false
set_option linter.all false
set_option maxRecDepth 100000
set_option maxHeartbeats 2000000
namespace Tm
open PySem L2
theorem hbs_of {bs vs : List Nat} (h : (vs.all fun v => !bs.contains v) = true) : ∀ i ∈ vs, bs.contains i = false := fun i hi => by
  have := List.all_eq_true.mp h i hi
  simpa using this
open Evl (Ex ex_rd ex_l ex_t)
section
variable {X : Cx} {c : Ct} {elt tg iter : Expr} {ifs : List Expr} {scope : Scope} {own : List (Str × Nat)} {pos : Pos} {it : MI} {g : Tgt} {t : MT} {e : ME}
theorem mts_nil : PTs X [] (rdT c mYes) := ⟨fun pins s σ H Q I ⟨F, Hk, bp, ρ, S, h⟩ => pts_nil.run pins s σ H Q I (h _ _ (Ex.refl _) S.1)⟩
theorem mts_one {a : Expr} (h : PT X a (rdT c t)) : PTs X [a] (rdT c t) := pts_one h
theorem mo_lc (hc : X.calm = true) (hN : X.N.Nodup) (hi : PI X tg iter (rdI c it)) (ok : BlkOk X.N X.env.scope scope own) (hg : ∀ (s : Shared) (H : Hp) (C : Addr) (cl : List (Str × Addr)) (fp : List Addr), PG (X.blk s H scope (compEnvC scope cl C X.env) fp) tg (gOf X.K g))
    (ht : ∀ (s : Shared) (H : Hp) (C : Addr) (cl : List (Str × Addr)) (fp : List Addr), PTs (X.blk s H scope (compEnvC scope cl C X.env) fp) ifs (rdT c t)) (he : ∀ (s : Shared) (H : Hp) (C : Addr) (cl : List (Str × Addr)) (fp : List Addr), PE (X.blk s H scope (compEnvC scope cl C X.env) fp) elt (rdE c e))
    (hgs : ∀ i ∈ g.slots, i ∈ own.map (·.2) := by decide) (hbs : ∀ i ∈ own.map (·.2), c.bs.contains i = false := by decide) (hK : c.K = X.K := by rfl) (hs : ∀ x, foldedSetIterable iter X.env x = pure x := by intro _; rfl) :
    PE X (.ListComp elt [⟨tg, iter, ifs, 0⟩] scope pos) (rdO c (mLcO it g t e (own.map (·.2)))) := PEw (pe_lc hc hN hi ok hg ht he hs) fun σ H Q h => by rw [← hK]; exact rd_lc hgs hbs h
end
theorem only_rs {K : PySem.W.Frag} {H : Hp} {a : Addr} {ns : List Int} (h : SqL K H a (ns.map V.int)) : RS K (fun _ => none) H H [] ([V.ref a].map some) ([MV.scr ns].map some) :=
  RS.args (Ex.refl _) (fun _ _ z => nomatch z) (fun _ _ z => nomatch z) (RVs.cons.mpr ⟨_, [], rfl, RV.scr.mpr ⟨a, rfl, h⟩, RVs.nil.mpr rfl⟩)
theorem walk_law {l : PySem.W.OpenLaw} {k : Nat} {q : Program} {loose : List Str} {XP : (Str → Option Value) → Heap → Prop} {YP : World → Heap → Prop} {d : DefRec} {K : Params → PySem.W.Frag} {x : Str} {f : MF}
    (hn : l.most = some 63) (hdf : d.params.defaults = []) (hr : Room k callerA) (hY : ∀ (w : World) (h : Heap), YP w h → (K w.params).In h)
    (hf : ∀ ns : List Int, ns.length ≤ 63 → ∃ bs, f [.scr ns] = .ok (.bl true, bs))
    (F : ∀ (w : World) (mg : Str → Option Value) (fa : Addr) (h : Heap), (K w.params).In h → h.Ns mainGlobals mg → mg d.name = some (.ref fa) →
      ∃ fd : FuncData, (∀ (s : Shared) (u : Value), BindsTo s fd ⟨[u], []⟩ [(x, u)]) ∧
        ∀ base : Heap, (K w.params).In base → base.Ns mainGlobals mg → FnOk l.prog w (K w.params) mg base (L2N.CX l.prog w) k fa fd [x] (spF (K w.params) mg 1 [] f)) :
    PySem.W.WalkO q loose XP YP l.row.toRowW d [] (fun f vs => PySem.call f vs) := by
  refine L2.walk_of (x := x) (K := K) (CX := fun w => L2N.CX l.prog w) (sp := fun w vs H Q E => ∃ (a : Addr) (ns : List Int), vs = [.ref a] ∧ ns.length ≤ 63 ∧ SqL (K w.params) H a (ns.map V.int) ∧ ∀ H', Q (.bl true) H') hn (by rw [sizeLine_eq]; decide) hdf hr hY (fun w mg fa h KX G hmg => ?_) (fun w H a ns hl _ hS => ⟨a, ns, rfl, hl, hS, fun _ => rfl⟩) ?_
  · obtain ⟨fd, hb, hF⟩ := F w mg fa h KX G hmg
    refine ⟨fd, hb, fun base h1 h2 => (hF base h1 h2).imp ?_⟩
    rintro vs H Q E ⟨a, ns, rfl, hl, hS, q⟩
    obtain ⟨bs, e⟩ := hf ns hl
    refine ⟨rfl, fun _ => none, H, [], [.scr ns], only_rs hS, rfl, ?_⟩
    rw [e]
    intro Hk' H' w x S'
    have bl : bs.length = 0 := by have := S'.len; simpa using this.symm
    have be : bs = [] := List.eq_nil_of_length_eq_zero bl
    subst be
    obtain ⟨v, ev, rv⟩ := S'.get (i := 0) (x := .bl true) rfl rfl
    cases ev
    rw [RV.bl.mp rv]
    exact q _
  · rintro w H s e s' ⟨_, _, _, _, _, _, _, _, _, _, _, _, f⟩
    exact f
structure Fd (P : Program) (w : World) (K : PySem.W.Frag) (mg : Str → Option Value) (base : Heap) (x : Str) (k : Nat) (ps : List Str) (bs : List Nat) (f : MF) : Prop where
  ex : ∃ (a : Addr) (fd : FuncData), FnOk P w K mg base (L2N.CX P w) k a fd ps (spF K mg ps.length bs f) ∧ mg x = some (.ref a) ∧ PySem.W.keepIn K (.ref a) = true ∧ Binds K fd ps []
structure Bn (mg : Str → Option Value) : Prop where
  len : mg "len" = none
  range : mg "range" = none
  abs : mg "abs" = none
  max : mg "max" = none
  min : mg "min" = none
  int : mg "int" = none
  str : mg "str" = none
  tuple : mg "tuple" = none
  list : mg "list" = none
  all : mg "all" = none
  any : mg "any" = none
  isinstance : mg "isinstance" = none
  divmod : mg "divmod" = none
  sum : mg "sum" = none
  zip : mg "zip" = none
  enumerate : mg "enumerate" = none
  reversed : mg "reversed" = none
  sorted : mg "sorted" = none
  dict : mg "dict" = none
  set : mg "set" = none
  bool : mg "bool" = none
section
variable {X : Cx} {c : Ct} {k : Nat} {ps : List Str} {x : Str} {p pos : Pos} {e : Expr} {es : List Expr} {f : MF} {a : MA} {j : Nat}
theorem mf_call (G : Fd X.prog X.w X.K X.mg X.base x k ps [] f) (hr : Room j X.A) (hj : k ≤ j) (tk : L2N.Takes X c.W) (ha : PA X (e :: es) (rdA c a)) (hn : Lng a ps.length) (hg : Gl X x := by rfl) (hK : c.K = X.K := by rfl) (hM : c.mg = X.mg := by rfl) (hdb : (x == ("__debug__" : Str)) = false := by decide)
    (he : starEach (e :: es) X.env = (false, eval e X.env) :: starEach es X.env := by rfl) (hpl : (backTo pos (starEach es X.env)).any (·.1) = false := by rfl) : PE X (.Call (.Name x p) (e :: es) [] pos) (rdO c (mCall f a)) := by
  obtain ⟨fa, fd, F, hm, hk, hb⟩ := G.ex
  exact mo_call F (hr.mono hj) hm hk hb tk ha hn hg hK hM hdb he hpl
theorem mf_call0 (G : Fd X.prog X.w X.K X.mg X.base x k ps [] f) (hr : Room j X.A) (hj : k ≤ j) (ha : PA X (e :: es) (rdA c a)) (hn : Lng a ps.length) (hg : Gl X x := by rfl) (hK : c.K = X.K := by rfl) (hM : c.mg = X.mg := by rfl) (hdb : (x == ("__debug__" : Str)) = false := by decide)
    (he : starEach (e :: es) X.env = (false, eval e X.env) :: starEach es X.env := by rfl) (hpl : (backTo pos (starEach es X.env)).any (·.1) = false := by rfl) : PE X (.Call (.Name x p) (e :: es) [] pos) (rdO c (mCall0 f a)) := by
  obtain ⟨fa, fd, F, hm, hk, hb⟩ := G.ex
  exact mo_call0 F (hr.mono hj) hm hk hb ha hn hg hK hM hdb he hpl
end
end Tm
set_option Elab.async false
set_option linter.all false
set_option maxRecDepth 100000
set_option maxHeartbeats 2000000
namespace Tm
open PySem L2
open Evl (Ex ex_rd ex_l ex_t)
def Cst (K : PySem.W.Frag) (mg : Str → Option Value) (x : Str) (v : MV) : Prop := ∃ w u, mg x = some u ∧ RelV w u ∧ ∀ H, RV K H v w
section
variable {X : Cx} {c : Ct} {x : Str} {pos : Pos}
theorem mf_con {v : MV} (h : Cst X.K X.mg x v) (hg : Gl X x := by rfl) (hK : c.K = X.K := by rfl) (hd : (x == ("__debug__" : Str)) = false := by decide) : PE X (.Name x pos) (rdE c (mC v)) := by
  obtain ⟨w, u, hm, rv, r⟩ := h
  exact me_glob hm rv (by rw [hK]; exact r) hg hd
end
theorem cst_int {K : PySem.W.Frag} {mg : Str → Option Value} {x : Str} {i : Int} {t : Tok} (h : mg x = some (.int i t)) : Cst K mg x (.int i) := ⟨.int i, _, h, ⟨t, rfl⟩, fun _ => RV.int.mpr rfl⟩
def flatIs : MV → Value → Bool
  | .int i, .int j _ => i == j
  | .str i, .str j _ => i == j
  | .non, .none => true
  | .bl a, .bool b => a == b
  | _, _ => false
def flatsIs : List MV → List Value → Bool
  | [], [] => true
  | x :: xs, v :: vs => flatIs x v && flatsIs xs vs
  | _, _ => false
theorem flat_is {K : PySem.W.Frag} {H : Hp} {x : MV} {v : Value} (h : flatIs x v = true) : ∃ w, RelV w v ∧ RV K H x w := by
  unfold flatIs at h
  split at h
  · rw [beq_iff_eq.mp h]; exact ⟨.int _, ⟨_, rfl⟩, RV.int.mpr rfl⟩
  · rw [beq_iff_eq.mp h]; exact ⟨.str _, ⟨_, rfl⟩, RV.str.mpr rfl⟩
  · exact ⟨.non, rfl, RV.non.mpr rfl⟩
  · rw [beq_iff_eq.mp h]; exact ⟨.bl _, rfl, RV.bl.mpr rfl⟩
  · cases h
theorem flats_is {K : PySem.W.Frag} {H : Hp} : ∀ {xs : List MV} {vs : List Value}, flatsIs xs vs = true → ∃ ws, Vals ws vs ∧ RVs K H xs ws
  | [], [], _ => ⟨[], .nil, RVs.nil.mpr rfl⟩
  | x :: xs, v :: vs, h => by
    unfold flatsIs at h
    rw [Bool.and_eq_true] at h
    obtain ⟨w, r1, r2⟩ := flat_is (K := K) (H := H) h.1
    obtain ⟨ws, r3, r4⟩ := flats_is (K := K) (H := H) h.2
    exact ⟨w :: ws, .cons r1 r3, RVs.cons.mpr ⟨w, ws, rfl, r2, r4⟩⟩
  | [], _ :: _, h => by cases h
  | _ :: _, [], h => by cases h
theorem flats_rv {K : PySem.W.Frag} {H H' : Hp} : ∀ {xs : List MV} {ws : List V} {vs : List Value}, flatsIs xs vs = true → RVs K H xs ws → RVs K H' xs ws
  | [], _, _, _, r => RVs.nil.mpr (RVs.nil.mp r)
  | x :: xs, ws, [], h, r => by cases h
  | x :: xs, ws, v :: vs, h, r => by
    unfold flatsIs at h
    rw [Bool.and_eq_true] at h
    obtain ⟨w, us, rfl, r1, r2⟩ := RVs.cons.mp r
    have f : flatM x = true := by
      have := h.1
      unfold flatIs at this
      split at this <;> first | rfl | cases this
    exact RVs.cons.mpr ⟨w, us, rfl, flat_rv f r1, flats_rv h.2 r2⟩
theorem cst_tup {K : PySem.W.Frag} {mg : Str → Option Value} {x : Str} {a : Addr} {dd : Option Addr} {its : Array Value} {n : Nat} {sl : Array (Option Value)} {xs : List MV} (h : mg x = some (.ref a)) (l : K.lookup a = some ⟨.type "tuple", dd, .seq its n, sl⟩) (e : flatsIs xs its.toList = true) (z : its.size ≤ 1000) : Cst K mg x (.tup xs) := by
  obtain ⟨ws, r1, r2⟩ := flats_is (K := K) (H := fun _ => none) e
  exact ⟨.ref a, _, h, rfl, fun H => RV.tup.mpr ⟨a, ws, rfl, .inr ⟨_, its, n, l, rfl, rfl, Nat.le_trans z (by rw [sizeLine_eq]; decide), r1⟩, flats_rv e r2⟩⟩
end Tm
set_option Elab.async false
set_option linter.all false
set_option maxRecDepth 100000
set_option maxHeartbeats 2000000
namespace Tm
open PySem L2
open Evl (Ex ex_rd ex_l ex_t)
theorem blkOk_at {N N' : List Str} {sc sc' bs : Scope} {own : List (Str × Nat)} (hN : N = N') (hs : sc = sc') (h : blkC N' sc' bs own = true) : BlkOk N sc bs own := by
  subst hN hs
  exact blkOk_by h
def mfOff : MF := fun _ => .stuck
def mRec (n : Nat) (bs : List Nat) (m : MF → MS) : Nat → MF
  | 0 => mfOff
  | k + 1 => mFn n bs (m (mRec n bs m k))
section
variable {P : Program} {w : World} {K : PySem.W.Frag} {mg : Str → Option Value} {base : Heap}
theorem spF_off {np : Nat} {bs : List Nat} {vs : List V} {H : Hp} {Q : VK} {E : XK} (h : spF K mg np bs mfOff vs H Q E) : False := by
  obtain ⟨_, _, _, _, _, _, _, h⟩ := h
  exact h
theorem fn_off {k : Nat} {f : Addr} {fd : FuncData} {ps : List Str} {np : Nat} {bs : List Nat} : FnOk P w K mg base (L2N.CX P w) k f fd ps (spF K mg np bs mfOff) :=
  ⟨fun _ _ _ _ h => (spF_off h).elim, fun _ _ _ _ _ _ _ _ _ _ _ _ _ h => (spF_off h).elim⟩
end
end Tm
set_option Elab.async false
set_option linter.all false
set_option maxRecDepth 100000
set_option maxHeartbeats 2000000
namespace HT
open PySem PySem.Spec PyProof.Rows
section
variable {prog : Program} {w : World} {A : Around} {E : Value → Shared → Prop} {s : Shared}
theorem fm_congr {α β : Type} {f g : α → Option β} : ∀ l : List α, (∀ x ∈ l, f x = g x) → l.filterMap f = l.filterMap g
  | [], _ => rfl
  | x :: l, h => by
    rw [List.filterMap_cons, List.filterMap_cons, h x (List.mem_cons_self ..), fm_congr l fun y hy => h y (List.mem_cons_of_mem _ hy)]
theorem rev_pick (xs : Array Value) : ((List.range xs.size).filterMap fun (m : Nat) => xs[(((xs.size : Int) - 1) + (m : Int) * (-1)).toNat]?).toArray = xs.toList.reverse.toArray := by
  have e : ((List.range xs.size).filterMap fun (m : Nat) => xs[(((xs.size : Int) - 1) + (m : Int) * (-1)).toNat]?) = ((List.range xs.size).map fun k => xs.size - 1 - k).filterMap (xs[·]?) := by
    rw [List.filterMap_map]
    refine fm_congr _ fun k hk => ?_
    have := List.mem_range.mp hk
    have e2 : (((xs.size : Int) - 1) + (k : Int) * (-1)).toNat = xs.size - 1 - k := by omega
    rw [e2]
    rfl
  rw [e, PySem.W.krv_range, List.filterMap_reverse, PySem.W.krv_all]
theorem sliceApplied_rev {sl : Addr} {vs : Value} {n : Nat} {Q : Int × Int × Nat → Shared → Prop} (hs : s.heap.IsSliceOf sl .none .none vs) (ps : IsPart vs (some (-1)))
    (h : Q ((n : Int) - 1, -1, n) s) : wpAny (model prog w) A (Builtin.Slice.sliceApplied (.ref sl) (pure (n : Int))) Q E s := by
  obtain ⟨os, hos, hcs, hds⟩ := id hs
  unfold Builtin.Slice.sliceApplied Builtin.Slice.sliceFields
  refine wpAny_bind (wpAny_bind (wpAny_field hos hds (x := .none) rfl (wpAny_bind (wpAny_field hos hds (x := .none) rfl (wpAny_bind (wpAny_field hos hds (x := vs) rfl (wpAny_pure ?_)))))))
  refine wpAny_bind (slicePart_ ps ?_)
  show wpAny _ _ (if ((-1 : Int) == 0) = true then _ else _) _ _ s
  rw [if_neg (by decide)]
  refine wpAny_bind (slicePart_none (wpAny_bind (slicePart_none (wpAny_bind (wpAny_pure ?_)))))
  show wpAny _ _ (match Builtin.Slice.sliceAdjust none none (-1) (n : Int) with | (lo, hi) => pure (lo, (-1 : Int), Builtin.Slice.slicePlaces lo hi (-1))) _ _ s
  have e : Builtin.Slice.sliceAdjust none none (-1) (n : Int) = ((n : Int) - 1, -1) := by
    simp [Builtin.Slice.sliceAdjust]
  rw [e]
  have e2 : Builtin.Slice.slicePlaces ((n : Int) - 1) (-1) (-1) = n := by
    unfold Builtin.Slice.slicePlaces
    simp
    omega
  show wpAny _ _ (pure ((n : Int) - 1, (-1 : Int), Builtin.Slice.slicePlaces ((n : Int) - 1) (-1) (-1))) _ _ s
  rw [e2]
  exact wpAny_pure h
theorem getItem_tuple_rev {t sl : Addr} {items : Array Value} {vs : Value} {Q : Value → Shared → Prop} (ht : IsTup s.heap t items) (hs : s.heap.IsSliceOf sl .none .none vs) (ps : IsPart vs (some (-1)))
    (h : Q (.ref s.heap.objs.size) { s with heap := s.heap.push { cls := .type "tuple", data := .seq items.toList.reverse.toArray } })
    (hsz : items.size ≤ sizeLine) : wpAny (model prog w) A (getItem (.ref t) (.ref sl)) Q E s := by
  have htake : sizeOk (.seq items.toList.reverse.toArray) := by
    show items.toList.reverse.toArray.size ≤ sizeLine
    rw [List.size_toArray, List.length_reverse, Array.length_toList]
    exact hsz
  obtain ⟨os, hos, hcs, hds⟩ := id hs
  have hTs : s.TypeIs (.ref sl) "slice" := ⟨os, hos, hcs⟩
  unfold getItem
  try with_reducible refine wpAny_holding ?_
  first | refine wpAny_bind (wpAny_pure ?_) | skip
  refine wpAny_bind (wpAny_sequenceKey ht.typeIs (by decide) ?_)
  refine wpAny_bind (wpAny_callSpecial?_slot (name := Str.ofString "__getitem__") ht.typeIs PyProof.Rows.slot_tuple_getitem
    (wpAny_call_entry PyProof.Rows.slot_tuple_getitem ht.typeIs entry_tuple_getitem ?_ (args_tuple_getitem _ _)))
  show wpAny _ _ (Builtin.Tuple.tupleItemsOf (.ref t) >>= _) _ _ s
  refine wpAny_bind (tupleItemsOf_ ht ?_)
  refine wpAny_bind (wpAny_typeOf hTs ?_)
  rw [if_pos (by decide)]
  refine wpAny_bind (sliceApplied_rev hs ps ?_)
  have hno : ¬ ((((items.size : Int) - 1) == 0 && (-1 : Int) == 1 && items.size == items.size) = true) := by simp
  show wpAny _ _ (if (((items.size : Int) - 1) == 0 && (-1 : Int) == 1 && items.size == items.size) = true then _ else _) _ _ s
  rw [if_neg hno, rev_pick]
  first
    | exact wpAny_bind (m := Builtin.Tuple.tupleExact _) (wpAny_newObj_type (wpAny_pure ⟨_, rfl, wpAny_pure h⟩) htake)
    | exact wpAny_bind (m := Builtin.Tuple.tupleExact _) (wpAny_newObj_type (wpAny_bind (wpAny_pure (wpAny_pure ⟨_, rfl, wpAny_pure h⟩))) htake)
    | exact wpAny_bind (wpAny_bind (m := Builtin.Tuple.tupleExact _) (wpAny_newObj_type (wpAny_pure (wpAny_pure ⟨_, rfl, wpAny_pure h⟩)) htake))
    | exact wpAny_bind (wpAny_bind (m := Builtin.Tuple.tupleExact _) (wpAny_newObj_type (wpAny_pure ⟨_, rfl, wpAny_pure h⟩) htake))
end
end HT
namespace Tm
open PySem L2 PySem.Spec PyProof.Rows
open Evl (Ex ex_rd ex_l ex_t)
def tRevT (K : PySem.W.Frag) (te : TE) : TE := fun σ H Q => te σ H fun x H1 => ∃ a xs, x = .ref a ∧ ((SqL K H1 a xs ∧ ∀ p, H1 p = none → Q (.ref p) (upd H1 p (.lst xs.reverse))) ∨ (SqT K H1 a xs ∧ ∀ p, H1 p = none → Q (.ref p) (upd H1 p (.tup xs.reverse))))
theorem pe_revT {X : Cx} {e : Expr} {te : TE} {k : Nat} {p1 p2 p3 pos : Pos} (he : PE X e te) : PE X (.Subscript e (.Slice none none (some (.UnaryOp .USub (.Constant (.int 1) k p1) p2)) p3) pos) (tRevT X.K te) := by
  refine ⟨fun pins s σ H Q I h => ?_⟩
  refine Subscript_ (thn (he.run pins s σ H _ I h) fun v s1 ⟨x, H1, I1, r1, q1⟩ => ?_)
  obtain ⟨a, xs, ex, hx⟩ := q1
  subst ex
  cases r1
  have hst : PO X (some (.UnaryOp .USub (.Constant (.int 1) k p1) p2)) (tPart (tUn (rU fun i => .int (-i)) (tC (.int 1)))) := po_some (pe_un un_neg pe_int)
  refine wpAny_Slice (thn (po_none.run pins s1 σ H1 (fun o H2 => o = none ∧ H2 = H1) I1 ⟨rfl, rfl⟩) fun vl s2 ⟨l, H2, I2, pl, el, e2⟩ => ?_)
  subst el e2
  refine thn (po_none.run pins s2 σ H2 (fun o H3 => o = none ∧ H3 = H2) I2 ⟨rfl, rfl⟩) fun vu s3 ⟨u, H3, I3, pu, eu, e3⟩ => ?_
  subst eu e3
  refine thn (hst.run pins s3 σ H3 (fun o H4 => o = some (-1) ∧ H4 = H3) I3 ⟨1, rfl, -1, rfl, rfl, rfl⟩) fun vs s4 ⟨o, H4, I4, ps, eo, e4⟩ => ?_
  subst eo e4
  cases pl
  cases pu
  have I5 : Inv X pins σ H4 { s4 with heap := s4.heap.push { cls := .type "slice", data := .fields #[.none, .none, vs] } } := I4.kept (t' := s4.toks) fun b ob q => Heap.get?_push_of_some _ q
  show wpAny (model X.prog X.w) X.A (subscriptTail e (.Slice none none (some (.UnaryOp .USub (.Constant (.int 1) k p1) p2)) p3) (.ref a) (.ref s4.heap.objs.size)) (EP X pins σ Q) X.xe { s4 with heap := s4.heap.push { cls := .type "slice", data := .fields #[.none, .none, vs] } }
  rcases hx with ⟨hx, q⟩ | ⟨hx, q⟩
  · obtain ⟨its, r, ht, hz⟩ := I5.list hx
    have hlen := r.length
    refine tail_any (ops := [.ref a, .ref s4.heap.objs.size]) ht.isList.typeIs (PySem.slot_list_getitem.lookup) ?_ (by with_unfolding_all rfl)
    refine wpAny_getItem_list_slice ht.isList (Heap.IsSliceOf.new _ _ _ vs) .none .none ps (by decide) ?_ (by rw [List.size_toArray]; omega)
    rw [PySem.W.krv_pick]
    refine ⟨.ref _, _, I5.laid (t' := s4.toks) (o := .lst xs.reverse) (fun b ob q => Heap.get?_push_of_some _ q) (Nat.le_refl _) ?_, rfl, q _ (I5.hok.fresh (Nat.le_refl _))⟩
    exact ⟨by rw [List.length_reverse]; exact hz, _, 0, r.reverse, Heap.get?_push_size _ rfl⟩
  · obtain ⟨its, r, ht, hz⟩ := I5.tuple hx
    have hlen := r.length
    refine tail_any (ops := [.ref a, .ref s4.heap.objs.size]) ht.typeIs (PyProof.Rows.slot_tuple_getitem.lookup) ?_ (by with_unfolding_all rfl)
    refine HT.getItem_tuple_rev ht (Heap.IsSliceOf.new _ _ _ vs) ps ?_ (by rw [List.size_toArray]; omega)
    refine ⟨.ref _, _, I5.laid (t' := s4.toks) (o := .tup xs.reverse) (fun b ob q => Heap.get?_push_of_some _ q) (Nat.le_refl _) ?_, rfl, q _ (I5.hok.fresh (Nat.le_refl _))⟩
    exact ⟨by rw [List.length_reverse]; exact hz, _, r.reverse, IsTup.new _ _⟩
section
variable {X : Cx} {c : Ct}
def fRevA : MV → Option MV
  | .lst xs => some (.lst xs.reverse)
  | .tup xs => some (.tup xs.reverse)
  | _ => none
def mRevA (a : ME) : ME := mUn fRevA a
theorem me_revA {e : Expr} {a : ME} {k : Nat} {p1 p2 p3 pos : Pos} (h : PE X e (rdE c a)) (hK : c.K = X.K := by rfl) : PE X (.Subscript e (.Slice none none (some (.UnaryOp .USub (.Constant (.int 1) k p1) p2)) p3) pos) (rdE c (mRevA a)) :=
  PEw (pe_revT h) fun σ H Q q => by
    obtain ⟨F, Hk, bp, ρ, S, q⟩ := q
    refine rdw (bE postE S q) fun v H1 ⟨Hk1, x, ρ1, x1, S1, r1, h1⟩ => ?_
    cases x with
    | lst xs =>
      obtain ⟨p, vs, rfl, g1, s1⟩ := RV.lst.mp r1
      refine ⟨p, vs, rfl, .inl ⟨SqL.of (S1.1.ex _ _ g1), fun l hl => h1 _ _ _ (Ex.new (S1.1.ex.back hl)) (S1.1.new hl) (RV.lst.mpr ⟨l, _, rfl, upd_same, (s1.reverse).mono (Ex.new (S1.1.ex.back hl))⟩)⟩⟩
    | tup xs =>
      obtain ⟨p, vs, rfl, g1, s1⟩ := RV.tup.mp r1
      refine ⟨p, vs, rfl, .inr ⟨by rw [← hK]; exact ex_t S1.1.ex g1, fun l hl => h1 _ _ _ (Ex.new (S1.1.ex.back hl)) (S1.1.new hl) (RV.tup.mpr ⟨l, _, rfl, SqT.of upd_same, (s1.reverse).mono (Ex.new (S1.1.ex.back hl))⟩)⟩⟩
    | _ => exact h1.elim
end
end Tm
set_option Elab.async false
set_option linter.all false
set_option maxRecDepth 100000
set_option maxHeartbeats 2000000
namespace Tm
open PySem L2 PySem.Spec PyProof.Rows
open Evl (Ex ex_rd ex_l ex_t)
structure Bas (K : PySem.W.Frag) (mg : Str → Option Value) (y : Str) : Prop where
  ex : ∃ CL : Addr, mg y = some (.ref CL) ∧ PySem.W.readsIn K CL (.type "type") = true ∧ PySem.W.specialIn K (.ref CL) "__getattribute__" = some (some (.builtin "type.__getattribute__")) ∧ PySem.W.findCls K (.ref CL) (.type "type") "__init__" = some (.val (.builtin "ValueError.__init__"))
section
variable {X : Cx} {y : Str} {e : Expr} {es : List Expr} {ta : TA} {p1 p2 pos : Pos}
theorem pe_linit {pl : Sem Bool} (hg : Gl X y) (B : Bas X.K X.mg y) (ha : PA X (e :: es) ta)
    (hc : eval (.Call (.Attribute (.Name y p1) "__init__" p2) (e :: es) [] pos) X.env = (do
      let ov ← eval (.Name y p1) X.env
      standAt p2.atName
      let (f, first) ← holding [ov] (getMethod ov "__init__" pl)
      callWith pos f first (backTo pos (starEach (e :: es) X.env)) (backToKw pos (keywordEach [] X.env))) := by rfl)
    (hdb : (y == ("__debug__" : Str)) = false := by decide) (he : starEach (e :: es) X.env = (false, eval e X.env) :: starEach es X.env := by rfl) (hpl : (backTo pos (starEach es X.env)).any (·.1) = false := by rfl) :
    PE X (.Call (.Attribute (.Name y p1) "__init__" p2) (e :: es) [] pos) (tVeI X.K ta) := by
  obtain ⟨CL, hm, hr, hga, hf⟩ := B.ex
  refine ⟨fun pins s σ H Q I h => ?_⟩
  refine PySem.W.methodCall_KW (ld_glob I hg hm ?_ hdb) hc
  refine PySem.W.method_cls I.kIn hga (PySem.W.cls_value I.kIn hr hf (by decide +kernel) ?_)
  show wpAny _ _ (callWith pos (Value.builtin "ValueError.__init__") [] (backTo pos (starEach (e :: es) X.env)) []) _ _ _
  refine PyProof.Rows.callWith_method1 (thn (ha.run pos pins _ σ H _ (I.tok _) h) fun us s1 ⟨vs, H1, I1, r1, a, C, ws, ev, hl, T, ea, q⟩ => ?_) he hpl
  subst ev
  cases r1 with
  | @cons _ u0 _ ur ra rw' =>
    obtain rfl : u0 = Value.ref a := ra
    have hlen : ur.length ≤ sizeLine := by
      rw [← Paired.length rw', sizeLine_eq]
      omega
    exact oinit_ok T I1 ea hlen fun s' J => ⟨.non, H1, J, rfl, q⟩
end
structure OwX (K : PySem.W.Frag) (mg : Str → Option Value) (x : Str) (C fI : Addr) : Prop where
  T : OexC K C
  m : mg x = some (.ref C)
  iC : PySem.W.findIn K (.ref C) "__init__" = some (some (.ref fI))
  tI : PySem.W.typeIn K (.ref fI) = some (.type "function")
def spI1 (K : PySem.W.Frag) (f : Str) : Sp := fun vs H Q _ => ∃ (a C : Addr) (v : V), vs = [.ref a, v] ∧ OexC K C ∧ PySem.W.findIn K (.ref C) f = some none ∧ H a = some (exo a C none) ∧
  ∀ d, H d = none → d ≠ a → Q .non (upd (upd H d (exd d [(f, v)])) a (exo a C (some d)))
def spI2 (K : PySem.W.Frag) (f g : Str) : Sp := fun vs H Q _ => ∃ (a C : Addr) (v w : V), vs = [.ref a, v, w] ∧ OexC K C ∧ PySem.W.findIn K (.ref C) f = some none ∧ PySem.W.findIn K (.ref C) g = some none ∧ H a = some (exo a C none) ∧
  ∀ d, H d = none → d ≠ a → Q .non (upd (upd (upd H d (exd d [(f, v)])) a (exo a C (some d))) d (exd d [(g, w), (f, v)]))
section
variable {P : Program} {w : World} {K : PySem.W.Frag} {mg : Str → Option Value} {base : Heap}
theorem init1 {x qual y f p t : Str} {st : Stmt} {a : Addr} {fd : FuncData} {j : Nat} {p1 p2 p3 p4 p5 p6 q1 q2 q3 q4 : Pos} (F : Fun K x qual st a fd) (S : FnScope ["self", p] ["self", p] (defScope st)) (B : Bas K mg y)
    (hb : defBody st = [.Expr (.Call (.Attribute (.Name y p1) "__init__" p2) [.Name "self" p3, .Constant (.str t) j p4] [] p5) p6, .Assign [.Attribute (.Name "self" q1) f q2] (.Name p q3) q4])
    (hy : ∀ (L : Addr) (cd : Value), (envOfC qual (defScope st) L a cd).kindOf y = some NameKind.globalImplicit) (hs : (defScope st).names.lookup ("self" : Str) = some .local) (hp : (defScope st).names.lookup p = some .local)
    (hc : ∀ env : PySem.Env, ∃ pl : Sem Bool, eval (.Call (.Attribute (.Name y p1) "__init__" p2) [.Name "self" p3, .Constant (.str t) j p4] [] p5) env = (do
      let ov ← eval (.Name y p1) env
      standAt p2.atName
      let (f, first) ← holding [ov] (getMethod ov "__init__" pl)
      callWith p5 f first (backTo p5 (starEach [.Name "self" p3, .Constant (.str t) j p4] env)) (backToKw p5 (keywordEach [] env))))
    (hy1 : (y == ("__debug__" : Str)) = false) (hp1 : (p == ("__debug__" : Str)) = false) (hp2 : (p == ("__classdict__" : Str)) = false) :
    FnOk P w K mg base (L2N.CX P w) 2 a fd ["self", p] (spI1 K f) := by
  refine okXN F S (fun vs H Q E h => ?_) (fun cdv A outer s H vs Q E hr h => ?_)
  · obtain ⟨_, _, _, rfl, _⟩ := h
    rfl
  obtain ⟨b, C, v, rfl, T, hf, hH, hq⟩ := h
  have nd := S.nd
  have hself : PE (cxOf (L2N.CX P w) P w K mg base ["self", p] qual (defScope st) a cdv A outer s H E) (.Name "self" p3) (tVar 0) := pe_var (i := 0) rfl (.inl hs)
  have hself2 : PE (cxOf (L2N.CX P w) P w K mg base ["self", p] qual (defScope st) a cdv A outer s H E) (.Name "self" q1) (tVar 0) := pe_var (i := 0) rfl (.inl hs)
  have hpar : PE (cxOf (L2N.CX P w) P w K mg base ["self", p] qual (defScope st) a cdv A outer s H E) (.Name p q3) (tVar 1) := pe_var (i := 1) rfl (.inl hp) hp1 hp2
  obtain ⟨pl, hc⟩ := hc (cxOf (L2N.CX P w) P w K mg base ["self", p] qual (defScope st) a cdv A outer s H E).env
  have h1 := pe_linit (pl := pl) (e := .Name "self" p3) (es := [.Constant (.str t) j p4]) (pos := p5) (p1 := p1) (p2 := p2) (X := cxOf (L2N.CX P w) P w K mg base ["self", p] qual (defScope st) a cdv A outer s H E) (y := y) (hy _ _) B (pa_cons hself (pa_cons pe_str pa_nil)) (hc := hc) (hdb := hy1)
  refine ⟨_, by rw [hb]; exact pss_cons (ps_expr h1) (pss_cons (ps_ost hself2 hpar) pss_nil), ?_⟩
  exact ⟨.ref b, rfl, b, C, [.str t], rfl, by simp, T, hH, v, rfl, .ref b, rfl, b, C, rfl, T, hf, .inl ⟨hH, fun dx h1 h2 => hq dx h1 h2⟩⟩
end
section
variable {X : Cx} {e : Expr} {es : List Expr} {ta : TA} {p pos : Pos}
theorem pmk_oexN {CX : CXT} {x : Str} {C fI : Addr} {k : Nat} {fd : FuncData} {ps : List Str} {sp : Sp} {ds : List Value} {dvs : List V} (T : OexC X.K C) (iC : PySem.W.findIn X.K (.ref C) "__init__" = some (some (.ref fI))) (tI : PySem.W.typeIn X.K (.ref fI) = some (.type "function"))
    (F1 : FnOk X.prog X.w X.K X.mg X.base CX k fI fd ps sp) (hr : Room (k + 1) X.A) (hb : L2.Binds X.K fd ps ds) (hd : Vals dvs ds) (hx : Passes CX X (fun _ _ _ => False)) (hg : Gl X x) (hm : X.mg x = some (.ref C)) (ha : PA X (e :: es) ta)
    (hdb : (x == ("__debug__" : Str)) = false := by decide) (he : starEach (e :: es) X.env = (false, eval e X.env) :: starEach es X.env := by rfl) (hpl : (backTo pos (starEach es X.env)).any (·.1) = false := by rfl) :
    L2N.PMk X (.Call (.Name x p) (e :: es) [] pos) (tMkO C sp dvs ta) := fun pins s σ H Q I h => by
  obtain ⟨_, _, _, _, bm, _, _, _, _, _, _, _, _, _, _, look, hbm⟩ := T.cls
  refine wpAny_Call_Name_kw (ld_glob I hg hm ?_ hdb)
  refine PySem.W.callWith_K (h₀ := X.base) I.ok.mod.kin T.kC (thn (ha.run pos pins s σ H _ I h) fun us s1 q0 => ⟨q0.choose_spec.choose_spec.1.kIn, ?_⟩) he hpl
  obtain ⟨vs, G, J, r, hz, q⟩ := q0
  show wpAny _ _ (call (.ref C) us) _ _ _
  obtain ⟨hp, gs, dr, tk, os⟩ := s1
  obtain ⟨n, hn⟩ : ∃ n, hp.objs.size = n := ⟨_, rfl⟩
  have le1 : hp.objs.size ≤ n + 1 := by omega
  have sp1 := q (n + 1) (J.hok.fresh le1)
  have keep : ∀ b o, hp.get? b = some o → ((hp.push (PySem.W.kdv_tup us)).push (PySem.HandSPX.excO C n)).get? b = some o := fun b o z => Heap.get?_push_of_some _ (Heap.get?_push_of_some _ z)
  have there : ((hp.push (PySem.W.kdv_tup us)).push (PySem.HandSPX.excO C n)).get? (n + 1) = some (PySem.HandSPX.excO C n) := by subst hn; heap_get
  have J2 : Inv X pins σ (upd G (n + 1) (exo (n + 1) C none)) ⟨(hp.push (PySem.W.kdv_tup us)).push (PySem.HandSPX.excO C n), gs, dr, tk, os⟩ :=
    J.laid (t' := tk) (a := n + 1) (o := exo (n + 1) C none) (h' := (hp.push (PySem.W.kdv_tup us)).push (PySem.HandSPX.excO C n)) keep le1 (exo_ok there)
  have r2 : Vals (V.ref (n + 1) :: (vs ++ dvs)) (Value.ref (n + 1) :: (us ++ ds)) := .cons rfl (r.append hd)
  have len2 : (Value.ref (n + 1) :: us ++ ds).length = ps.length := (F1.len _ _ _ _ sp1 ▸ r2.length).symm
  have small : us.length ≤ sizeLine := by
    have := Paired.length r
    rw [sizeLine_eq]; omega
  subst hn
  refine wpAny_call (PySem.HandSPX.call_own F.excBase_ValueError (fun Y => PySem.HandSPX.refsVE_contains Y bm hbm) (J.kIn _ _ look) (PySem.W.looks_findIn J.kIn iC) (fun self => PySem.W.bind_fn J.kIn self tI) small (codeAny_mono
    (F1.run _ X.stack _ _ ⟨Value.ref (hp.objs.size + 1) :: us, []⟩ (Value.ref (hp.objs.size + 1) :: (us ++ ds)) _ _ (fun _ _ _ => False) (hr.make C us []) (J2.env0.make C us []) (hb _ (Value.ref (hp.objs.size + 1) :: us) J2.kIn len2) r2 sp1) fun z s' hq => ?_))
  match z, hq with
  | .error er, hq => exact hx pins σ _ _ er s' J2 hq
  | .ok (.ret u), hq =>
    obtain ⟨v, G2, o2, b2, un2, ok2, rv, rfl, d, fs, ea, ed, hd1, w⟩ := hq
    obtain ⟨h2, g2, d2, t2, _⟩ := s'
    obtain ⟨t0, B, JB, kB, gB, at2, na⟩ := mk_end0 (d2 := d2) (t2 := t2) J le1 keep un2 ok2 o2 b2 ea ed hd1
    exact ⟨rv, ⟨_, _, _, ⟨B, g2, d2, t2, _⟩, _, .ref C, some d, rfl, JB, kB, gB, at2, ⟨rfl, rfl, fun vs hv => by cases hv; rfl⟩, rfl, rfl, na, rfl, b2, raises_own T.exC T.tyC, w⟩⟩
  | .ok .next, hq => exact hq.elim
  | .ok .brk, hq => exact hq.elim
  | .ok .cont, hq => exact hq.elim
end
theorem made_heap {H1 : Hp} {a d : Addr} {o u z : HO} (ha : H1 a = none) (hd : d ≠ a) : upd (del (upd (upd (upd H1 a o) d u) a z) a) d = upd H1 d := by
  funext y b
  by_cases e1 : b = d
  · subst e1; rw [upd_same, upd_same]
  · rw [upd_ne e1, upd_ne e1]
    by_cases e2 : b = a
    · subst e2; rw [del_same, ha]
    · rw [del_ne e2, upd_ne e2, upd_ne e1, upd_ne e2]
section
variable {X : Cx} {c : Ct} {x f g : Str} {C fI : Addr} {k : Nat} {fd : FuncData} {ps : List Str} {W : WX}
theorem never {W : WX} (tk : L2N.Takes X W) : Passes (L2N.CX X.prog X.w) X (fun _ _ _ => False) := L2N.passes_call (E := fun _ _ _ => False) tk fun _ _ _ _ z => z.elim
def tMk1 (C : Addr) (f : Str) (ta : TA) : L2.St → Hp → XK → Prop := fun σ H Q => ta σ H fun vs H1 => ∃ v, vs = [v] ∧ ∀ d, H1 d = none → Q (.ref C) (some d) (upd H1 d (.xd [(f, v)]))
theorem pmk1 {e : Expr} {es : List Expr} {ta : TA} {p pos : Pos} (O : OwX X.K X.mg x C fI) (hf : PySem.W.findIn X.K (.ref C) f = some none) (F1 : FnOk X.prog X.w X.K X.mg X.base (L2N.CX X.prog X.w) k fI fd ps (spI1 X.K f)) (hr : Room (k + 1) X.A) (hb : L2.Binds X.K fd ps []) (tk : L2N.Takes X W) (hg : Gl X x) (ha : PA X (e :: es) ta)
    (hm : ∀ σ H Q Q', ta σ H Q → (∀ vs H1, Q vs H1 → Q' vs H1) → ta σ H Q')
    (hdb : (x == ("__debug__" : Str)) = false := by decide) (he : starEach (e :: es) X.env = (false, eval e X.env) :: starEach es X.env := by rfl) (hpl : (backTo pos (starEach es X.env)).any (·.1) = false := by rfl) :
    L2N.PMk X (.Call (.Name x p) (e :: es) [] pos) (tMk1 C f ta) := by
  have z := pmk_oexN (p := p) (ds := []) (dvs := []) O.T O.iC O.tI F1 hr hb .nil (never tk) hg O.m ha hdb he hpl
  intro pins s σ H Q I h
  refine z pins s σ H Q I (hm σ H _ _ h fun vs H1 ⟨v, ev, q⟩ => ?_)
  subst ev
  refine ⟨by simp, fun a ha => ⟨a, C, v, rfl, O.T, hf, upd_same, fun d hd hne => ⟨rfl, d, [(f, v)], upd_same, ?_, ?_, ?_⟩⟩⟩
  · rw [upd_ne hne, upd_same]
  · rw [upd_ne hne] at hd; exact hd
  · rw [made_heap ha hne]
    exact q d (by rw [upd_ne hne] at hd; exact hd)
end
end Tm
set_option Elab.async false
set_option linter.all false
set_option maxRecDepth 100000
set_option maxHeartbeats 2000000
namespace Tm
open PySem L2 PySem.Spec PyProof.Rows
open Evl (Ex ex_rd ex_l ex_t)
def NoX (H H' : Hp) : Prop := ∀ a o, H a = some o → (∀ fs, o ≠ .xd fs) → H' a = some o
theorem NoX.rdl {H H' : Hp} (e : NoX H H') {a : Addr} {xs : List V} (h : Rd H a (.lst xs)) : Rd H' a (.lst xs) := by
  rcases h with h | ⟨o, h⟩
  · exact Or.inl (e a _ h (fun _ z => nomatch z))
  · exact Or.inr ⟨o, e a _ h (fun _ z => nomatch z)⟩
theorem NoX.rdt {H H' : Hp} (e : NoX H H') {a : Addr} {xs : List V} (h : Rd H a (.tup xs)) : Rd H' a (.tup xs) := by
  rcases h with h | ⟨o, h⟩
  · exact Or.inl (e a _ h (fun _ z => nomatch z))
  · exact Or.inr ⟨o, e a _ h (fun _ z => nomatch z)⟩
mutual
theorem RV.sub {K : PySem.W.Frag} {H H' : Hp} (e : NoX H H') : ∀ (x : MV) (v : V), RV K H x v → RV K H' x v
  | .non, v, h => by unfold RV at h ⊢; exact h
  | .bl b, v, h => by unfold RV at h ⊢; exact h
  | .int i, v, h => by unfold RV at h ⊢; exact h
  | .str x, v, h => by unfold RV at h ⊢; exact h
  | .tup xs, v, h => by
    unfold RV at h ⊢
    obtain ⟨a, vs, e1, e2, e3⟩ := h
    exact ⟨a, vs, e1, e2.imp e.rdt id, RVs.sub e xs vs e3⟩
  | .lst xs, v, h => by
    unfold RV at h ⊢
    obtain ⟨a, vs, e1, e2, e3⟩ := h
    exact ⟨a, vs, e1, e _ _ e2 (fun _ z => nomatch z), RVs.sub e xs vs e3⟩
  | .own xs, v, h => by unfold RV at h; exact h.elim
  | .raw w, v, h => by unfold RV at h ⊢; exact h
  | .scr ns, v, h => by
    unfold RV at h ⊢
    obtain ⟨a, e1, e2⟩ := h
    exact ⟨a, e1, e2.imp e.rdl id⟩
  | .fnc x, v, h => by unfold RV at h ⊢; exact h
  | .obj C fs, v, h => by unfold RV at h; exact h.elim
  | .dct ks xs, v, h => by
    unfold RV at h ⊢
    obtain ⟨a, vs, e1, e2, e3, e4⟩ := h
    exact ⟨a, vs, e1, e _ _ e2 (fun _ z => nomatch z), e3, RVs.sub e xs vs e4⟩
  | .dow ks xs, v, h => by unfold RV at h; exact h.elim
  | .dot ks xs, v, h => by unfold RV at h; exact h.elim
theorem RVs.sub {K : PySem.W.Frag} {H H' : Hp} (e : NoX H H') : ∀ (xs : List MV) (vs : List V), RVs K H xs vs → RVs K H' xs vs
  | [], vs, h => by unfold RVs at h ⊢; exact h
  | x :: xs, vs, h => by
    unfold RVs at h ⊢
    obtain ⟨v, r, e1, e2, e3⟩ := h
    exact ⟨v, r, e1, RV.sub e x v e2, RVs.sub e xs r e3⟩
end
theorem OF.sub {K : PySem.W.Frag} {Hk Hk' H : Hp} {x : MV} {v : V} {A : List Addr} (e : NoX Hk Hk') (h : OF K Hk H x v A) : OF K Hk' H x v A := by
  cases x with
  | own xs =>
    unfold OF at h ⊢
    obtain ⟨p, vs, e1, e2, e3, e4⟩ := h
    exact ⟨p, vs, e1, e2, e3, RVs.sub e _ _ e4⟩
  | dow ks xs =>
    unfold OF at h ⊢
    obtain ⟨p, vs, e1, e2, e3, e5, e4⟩ := h
    exact ⟨p, vs, e1, e2, e3, e5, RVs.sub e _ _ e4⟩
  | dot ks xs =>
    unfold OF at h ⊢
    obtain ⟨p, vs, e1, e2, e3, e5, e4⟩ := h
    exact ⟨p, vs, e1, e2, e3, e5, RVs.sub e _ _ e4⟩
  | obj C fs => exact (show False by unfold OF at h; unfold RV at h; exact h.2).elim
  | _ =>
    unfold OF at h ⊢
    exact ⟨h.1, RV.sub e _ _ h.2⟩
theorem OFs.sub {K : PySem.W.Frag} {Hk Hk' H : Hp} (e : NoX Hk Hk') : ∀ {fs : List (Str × MV)} {vs : List (Str × V)} {A : List Addr}, OFs K Hk H fs vs A → OFs K Hk' H fs vs A
  | [], _, _, h => h
  | (n, x) :: fs, vs, A, h => by
    obtain ⟨v, r, B, C, e1, e2, h1, h2⟩ := h
    exact ⟨v, r, B, C, e1, e2, h1.sub e, OFs.sub e h2⟩
theorem OV.sub {K : PySem.W.Frag} {Hk Hk' H : Hp} {x : MV} {v : V} {A : List Addr} (e : NoX Hk Hk') (h : OV K Hk H x v A) : OV K Hk' H x v A := by
  cases x with
  | obj C fs =>
    unfold OV at h ⊢
    obtain ⟨p, CA, dx, vfs, B, e1, e2, e0, e3, e4, e5⟩ := h
    exact ⟨p, CA, dx, vfs, B, e1, e2, e0, e3, OFs.sub e e4, e5⟩
  | _ => (unfold OV at h ⊢; exact OF.sub e h)
section
variable {K : PySem.W.Frag} {F Hk H : Hp} {bp : List (Nat × Addr)} {σ : L2.St} {ρ : Env}
theorem SL.hole {ow : Nat → List Addr} (S : SL K F Hk H ow σ ρ) {i : Nat} (y : Option V) : SL K F Hk H (put ow i []) (σ.set i y) (ρ.set i none) := by
  refine ⟨fun j x h => ?_, fun j a h => ?_, fun j h => ?_, fun j k a hjk h => ?_⟩
  · rcases set_get h with ⟨_, e⟩ | ⟨ne, e⟩
    · cases e
    · obtain ⟨v, e1, o⟩ := S.s j x e
      refine ⟨v, by rw [List.getElem?_set_ne (Ne.symm ne)]; exact e1, ?_⟩
      unfold put
      rw [if_neg ne]; exact o
  · unfold put at h
    split at h
    · cases h
    · exact S.f j a h
  · unfold put at h
    split at h
    · exact absurd rfl h
    · rw [List.length_set]; exact S.w j h
  · unfold put at h ⊢
    split at h
    · cases h
    · split
      · simp
      · exact S.d j k a hjk h
theorem RS.hold (S : RS K F Hk H bp σ ρ) {i : Nat} {a : Addr} (hi : i < ρ.length) (hb : ∀ q ∈ bp, q.1 ≠ i) : RS K F Hk H ((i, a) :: bp) (σ.set i (some (.ref a))) (ρ.set i none) := by
  obtain ⟨ow, s⟩ := S.ow
  refine ⟨by rw [List.length_set, List.length_set, S.len], S.ex, S.fr, S.frk, ⟨_, s.hole _⟩, fun q hq => ?_⟩
  rcases List.mem_cons.mp hq with rfl | hq
  · exact List.getElem?_set_self (by rw [S.len]; exact hi)
  · rw [List.getElem?_set_ne (Ne.symm (hb q hq))]; exact S.bor q hq
theorem RS.unhold (S : RS K F Hk H ((i, a) :: bp) σ ρ) (hb : ∀ q ∈ bp, q.1 ≠ i) : RS K F Hk H bp (σ.set i none) (ρ.set i none) := by
  obtain ⟨ow, s⟩ := S.ow
  refine ⟨by rw [List.length_set, List.length_set, S.len], S.ex, S.fr, S.frk, ⟨_, s.hole _⟩, fun q hq => ?_⟩
  rw [List.getElem?_set_ne (Ne.symm (hb q hq))]; exact S.bor q (List.mem_cons_of_mem _ hq)
theorem RS.less (S : RS K F Hk H (p :: bp) σ ρ) : RS K F Hk H bp σ ρ := ⟨S.len, S.ex, S.fr, S.frk, S.ow, fun q hq => S.bor q (List.mem_cons_of_mem _ hq)⟩
theorem RS.aside (S : RS K F Hk H bp σ ρ) {dx : Addr} {fs : List (Str × V)} (hd : Hk dx = some (.xd fs)) : RS K (upd F dx (.xd fs)) (del Hk dx) H bp σ ρ := by
  have nx : NoX Hk (del Hk dx) := fun a o h n => by
    unfold del
    rw [if_neg (fun z => by subst z; rw [hd] at h; cases h; exact n _ rfl)]
    exact h
  have le : ∀ a o, del Hk dx a = some o → Hk a = some o := fun a o h => by
    unfold del at h
    split at h
    · cases h
    · exact h
  obtain ⟨ow, s⟩ := S.ow
  refine ⟨S.len, fun a o h => S.ex a o (le a o h), fun a o h => ?_, fun a o h => ?_, ⟨ow, fun i x h => ?_, fun i a h => ?_, s.w, s.d⟩, S.bor⟩
  · by_cases e : a = dx
    · subst e; rw [upd_same] at h; cases h; exact S.ex _ _ hd
    · rw [upd_ne e] at h; exact S.fr a o h
  · by_cases e : a = dx
    · subst e; exact del_same
    · rw [upd_ne e] at h; rw [del_ne e]; exact S.frk a o h
  · obtain ⟨v, e1, o⟩ := s.s i x h
    exact ⟨v, e1, o.sub nx⟩
  · obtain ⟨h1, h2, h3⟩ := s.f i a h
    have ne : a ≠ dx := fun z => by subst z; rw [hd] at h1; cases h1
    exact ⟨by rw [del_ne ne]; exact h1, by rw [upd_ne ne]; exact h2, h3⟩
theorem RS.back_in {dx : Addr} {fs : List (Str × V)} (S : RS K (upd F dx (.xd fs)) Hk H bp σ ρ) (hF : F dx = none) : RS K F (upd Hk dx (.xd fs)) H bp σ ρ := by
  have hk : Hk dx = none := S.frk dx _ upd_same
  have ex := Ex.new (o := HO.xd fs) hk
  obtain ⟨ow, s⟩ := S.ow
  refine ⟨S.len, fun a o h => ?_, fun a o h => ?_, fun a o h => ?_, ⟨ow, fun i x h => ?_, fun i a h => ?_, s.w, s.d⟩, S.bor⟩
  · by_cases e : a = dx
    · subst e; rw [upd_same] at h; cases h; exact S.fr _ _ upd_same
    · rw [upd_ne e] at h; exact S.ex a o h
  · have ne : a ≠ dx := fun z => by subst z; rw [hF] at h; cases h
    exact S.fr a o (by rw [upd_ne ne]; exact h)
  · have ne : a ≠ dx := fun z => by subst z; rw [hF] at h; cases h
    rw [upd_ne ne]
    exact S.frk a o (by rw [upd_ne ne]; exact h)
  · obtain ⟨v, e1, o⟩ := s.s i x h
    exact ⟨v, e1, o.move ex fun _ _ _ z => z⟩
  · obtain ⟨h1, h2, h3⟩ := s.f i a h
    have ne : a ≠ dx := fun z => by subst z; rw [upd_same] at h2; cases h2
    exact ⟨by rw [upd_ne ne]; exact h1, by rw [upd_ne ne] at h2; exact h2, h3⟩
end
theorem RV.flat {K K' : PySem.W.Frag} {H H' : Hp} {x : MV} {v : V} (f : flatM x = true) (h : RV K H x v) : RV K' H' x v := by
  cases x <;> first | (simp [flatM] at f; done) | (unfold RV at h ⊢; exact h)
theorem XFs.flat {K K' : PySem.W.Frag} {H H' : Hp} : ∀ {xs : List (Str × MV)} {vs : List (Str × V)}, xs.all (fun p => flatM p.2) = true → XFs K H xs vs → XFs K' H' xs vs
  | [], _, _, h => h
  | (n, x) :: xs, vs, f, h => by
    obtain ⟨v, r, e1, e2, e3⟩ := h
    simp only [List.all_cons, Bool.and_eq_true] at f
    exact ⟨v, r, e1, e2.flat f.1, XFs.flat f.2 e3⟩
structure ExT (K : PySem.W.Frag) (mg : Str → Option Value) (y : Str) (x : Str) (b : Bool) : Prop where
  ex : ∃ C D, mg x = some (.ref C) ∧ mg y = some (.ref D) ∧ PySem.W.exmOne K (.ref C) (.ref D) = some b
def XIn (F : Hp) (e : MX) (d : Option Addr) : Prop := (e.fs = [] ∧ d = none) ∨ ∃ dx vfs, d = some dx ∧ F dx = some (.xd vfs) ∧ ∀ K H, XFs K H e.fs vfs
def cH (c : Ct) (i : Nat) (a : Addr) (e : MX) (d : Option Addr) : Ct := ⟨c.K, c.mg, fun _ _ _ _ => False, i :: c.bs, fun F bp => (∃ bq, bp = (i, a) :: bq ∧ c.J F bq) ∧ XIn F e d, fun F F1 bp x h => by
  obtain ⟨⟨bq, e1, e2⟩, h2⟩ := h
  refine ⟨⟨bq, e1, c.Jm _ _ _ x e2⟩, ?_⟩
  rcases h2 with h2 | ⟨dx, vfs, q1, q2, q3⟩
  · exact .inl h2
  · exact .inr ⟨dx, vfs, q1, x _ _ q2, q3⟩⟩
section
variable {X : Cx} {c : Ct} {y n : Str} {i : Nat} {body suite : List Stmt} {b₀ : Stmt} {np pos pos' : Pos} {tab : List (Str × Bool)} {mb : MS} {mh : MX → MS}
theorem lookup_mem : ∀ {tab : List (Str × Bool)} {x : Str} {b : Bool}, tab.lookup x = some b → (x, b) ∈ tab
  | [], _, _, h => by simp at h
  | (z, k) :: tab, x, b, h => by
    rw [List.lookup_cons] at h
    by_cases e : x = z
    · subst e
      simp at h
      subst h
      exact List.mem_cons_self ..
    · have : (x == z) = false := by simpa using e
      rw [this] at h
      exact List.mem_cons_of_mem _ (lookup_mem h)
end
end Tm
set_option Elab.async false
set_option linter.all false
set_option maxRecDepth 100000
set_option maxHeartbeats 2000000
namespace Tm
open PySem L2 PySem.Spec PyProof.Rows
open Evl (Ex ex_rd ex_l ex_t)
def mRaise0 (x : Str) : MS := fun ρ => .exc ⟨x, []⟩ ρ
def mRaise1 (x f : Str) (a : ME) : MS := fun ρ => (a ρ).bind fun y ρ1 => .exc ⟨x, [(f, y)]⟩ ρ1
structure Cl0 (K : PySem.W.Frag) (mg : Str → Option Value) (x : Str) : Prop where
  ex : ∃ C, mg x = some (.ref C) ∧ PySem.W.excIn K C PySem.HandSPX.veTail "ValueError.__new__" = true ∧ PySem.W.keepIn K (.ref C) = true ∧ PySem.W.subIn K (.ref C) (.type "BaseException") = some true ∧ PySem.W.typeIn K (.ref C) = some (.type "type")
structure Cl1 (P : Program) (w : World) (K : PySem.W.Frag) (mg : Str → Option Value) (base : Heap) (x f : Str) : Prop where
  ex : ∃ C fI fd ps, OwX K mg x C fI ∧ PySem.W.findIn K (.ref C) f = some none ∧ FnOk P w K mg base (L2N.CX P w) 2 fI fd ps (spI1 K f) ∧ L2.Binds K fd ps []
structure Cl2 (P : Program) (w : World) (K : PySem.W.Frag) (mg : Str → Option Value) (base : Heap) (x f g : Str) : Prop where
  ex : ∃ C fI fd ps, OwX K mg x C fI ∧ PySem.W.findIn K (.ref C) f = some none ∧ PySem.W.findIn K (.ref C) g = some none ∧ FnOk P w K mg base (L2N.CX P w) 2 fI fd ps (spI2 K f g) ∧ L2.Binds K fd ps []
section
variable {X : Cx} {c : Ct} {x f g m : Str} {k j : Nat}
theorem ms_raise0 {p p2 p3 pos : Pos} (Z : Cl0 X.K X.mg x) (hc : X.calm = true) (tk : L2N.Takes X c.W) (hg : Gl X x) (hmg : c.mg = X.mg := by rfl) (hdb : (x == ("__debug__" : Str)) = false := by decide) :
    PS X (.Raise (some (.Call (.Name x p) [.Constant (.str m) j p2] [] p3)) none pos) (rdS c (mRaise0 x)) := by
  obtain ⟨C, h1, h2, h3, h4, h5⟩ := Z.ex
  refine PSw (L2N.ps_raise hc tk (L2N.pmk_own (m := m) (j := j) F.excBase_ValueError h2 h1 h3 (raises_own h4 h5) hg hdb)) fun D σ H ⟨F, Hk, bp, ρ, S, h⟩ => ?_
  exact h _ _ _ _ _ (Ex.refl _) S.1 ⟨C, by rw [hmg]; exact h1, rfl, .inl ⟨rfl, rfl⟩⟩
theorem ms_raise1 {e : Expr} {a : ME} {p p2 pos : Pos} (Z : Cl1 X.prog X.w X.K X.mg X.base x f) (hc : X.calm = true) (hr : Room k X.A) (hk : 3 ≤ k) (tk : L2N.Takes X c.W) (hg : Gl X x) (he : PE X e (rdE c a)) (hmg : c.mg = X.mg := by rfl)
    (hdb : (x == ("__debug__" : Str)) = false := by decide) (hst : starEach [e] X.env = (false, eval e X.env) :: starEach [] X.env := by rfl) (hpl : (backTo p2 (starEach [] X.env)).any (·.1) = false := by rfl) :
    PS X (.Raise (some (.Call (.Name x p) [e] [] p2)) none pos) (rdS c (mRaise1 x f a)) := by
  obtain ⟨C, fI, fd, ps, O, h2, h3, h4⟩ := Z.ex
  refine PSw (L2N.ps_raise hc tk (pmk1 (W := c.W) O h2 h3 (hr.mono hk) h4 tk hg (ma_cons he ma_nil hst) (fun σ H Q Q' q w => rdAw q w) hdb hst hpl)) fun D σ H ⟨F, Hk, bp, ρ, S, h⟩ => ?_
  have h : okS c F Hk bp D ((a ρ).bind fun y ρ1 => .exc ⟨x, [(f, y)]⟩ ρ1) := h
  refine ⟨F, Hk, bp, ρ, S, ?_⟩
  show okA c F Hk bp σ _ ((a ρ).bind fun y ρ1 => (mNil ρ1).bind fun xs ρ2 => .ok (y :: xs, ρ2))
  cases ea : a ρ with
  | stuck => rw [ea] at h; exact h
  | exc e ρ' => rw [ea] at h; exact fun Hk' H' cls d => h Hk' H' σ cls d
  | ok q =>
    obtain ⟨y, ρ1⟩ := q
    rw [ea] at h
    intro Hk1 H1 vs x1 S1 r1
    obtain ⟨v, us, rfl, r2, r3⟩ := RVs.cons.mp r1
    cases RVs.nil.mp r3
    refine ⟨v, rfl, fun d hd => ?_⟩
    have xn := Ex.new (o := HO.xd [(f, v)]) (S1.ex.back hd)
    exact h _ _ _ _ _ (x1.trans xn) (S1.new hd) ⟨C, by rw [hmg]; exact O.m, rfl, .inr ⟨d, _, rfl, upd_same, v, [], rfl, r2.mono xn, rfl⟩⟩
end
section
variable {prog : Program} {w : World} {A : Around} {E : Value → Shared → Prop} {s : Shared} {K : PySem.W.Frag} {x D : Addr} {ox : Obj} {od : Option Obj}
theorem findObj_any {C : Addr} {name : Str} {a g : Value} (hc : (PySem.W.clsIn K C).isSome = true) (ha : PySem.W.findIn K (.ref C) name = some (some a)) (hg : PySem.W.specialIn K a "__get__" = some (some g)) (ht : PySem.W.takesIn K a = some true) : PySem.W.findObj K C od name = some (.bind g a) := by
  obtain ⟨cd, hc⟩ := Option.isSome_iff_exists.mp hc
  unfold PySem.W.findObj
  rw [hc, Option.bind_some, ha, Option.bind_some]
  simp [hg, ht]
open PySem.W PySem.Calls in
theorem class_any {Q : Option Value → Shared → Prop} (c : ExcC K D) (X : K.In s.heap) (I : InstAt s.heap x ox D od) (h : Q (some (.ref D)) { s with toks := s.toks + 1 }) : wpAny (model prog w) A (getAttr? (.ref x) "__class__") Q E s := by
  have hf : findObj K D od "__class__" = some (.bind (.builtin "getset_descriptor.__get__") (.builtin "object.__class__")) := findObj_any (by obtain ⟨cd, hc, _⟩ := any_some c.hd; rw [hc]; rfl) c.ha c.hn c.ht
  obtain ⟨hp, g, d, t, os⟩ := s
  have L0 := I.type (M := model prog w)
  have L1 := looks_findIn (M := model prog w) X c.hg
  have L2 := looks_findIn (M := model prog w) X c.hk
  have L3 := looks_find (M := model prog w) X I hf
  have sub : Looks (model prog w) hp (isInstance (.ref x) (.type "BaseException")) true := L0.andThen (looks_subIn X c.hs)
  have z0 : (false && onTheHeap (Value.builtin "BaseException.__getattribute__")) = false := rfl
  have z2 : (Value.builtin "BaseException.__getattribute__" == Value.builtin "object.__getattribute__") = false := by decide +kernel
  have z1 : (onTheHeap (Value.ref D) && Value.builtin "BaseException.__getattribute__" == Value.builtin "object.__getattribute__") = false := by rw [z2]; rfl
  unfold getAttr? getAttrBy? getAttrBy
  refine wpAny_bind (wpAny_mkText (wpAny_bind (wpAny_attempt (wpAny_holding (wpAny_bind (L0.at (wpAny_bind (L1.at ?_))))))))
  show wpAny _ _ (if (onTheHeap (Value.ref D) && Value.builtin "BaseException.__getattribute__" == Value.builtin "object.__getattribute__") = true then _ else _) _ _ _
  rw [z1, if_neg Bool.false_ne_true]
  unfold getAttrByItsOwn hookBefore
  refine wpAny_bind ?_
  rw [if_pos (show onTheHeap (Value.ref D) = true from rfl)]
  refine L2.at ?_
  refine wpAny_bind (wpAny_attempt (wpAny_holding ?_))
  unfold callGetattribute
  rw [z0, if_neg Bool.false_ne_true]
  unfold boundAndCalled
  rw [PySem.F.excAttr_ValueError.ga.bind (.ref x)]
  refine wpAny_bind (wpAny_pure ?_)
  show wpAny _ _ (call (.builtin "BaseException.__getattribute__") [.ref x, .str "__class__" t]) _ _ _
  refine wpAny_call (codeAny_call_builtin PySem.F.excAttr_ValueError.ga.plain PySem.F.entry_bexc_ga ?_)
  refine @check_slot (model prog w) _ _ ⟨hp, g, d, t + 1, os⟩ "BaseException.__getattribute__" "BaseException" "__getattribute__" (.ref x) [.str "__class__" t] [] _ (by decide +kernel) (by decide +kernel) sub (PySem.F.args_bexc_ga (.ref x) (.str "__class__" t)) ?_
  unfold Builtin.«object.__getattribute__»
  refine wpAny_bind (wpAny_of_eq (a := ((Value.ref x : Value), [Value.str "__class__" t])) (by first | rfl | (simp only [slotArgs]; rfl)) ?_)
  refine wpAny_bind (wpAny_pure (wpAny_bind (L0.at (wpAny_bind (L3.at ?_)))))
  show wpAny _ _ (holding [Value.builtin "object.__class__"] (call (.builtin "getset_descriptor.__get__") [.builtin "object.__class__", .ref x, .ref D]) >>= ret) _ _ _
  refine wpAny_bind (wpAny_holding (wpAny_call (class_get (s := ⟨hp, g, d, t + 1, os⟩) (ox := ox) (od := od) X I c.hm ?_)))
  refine wpAny_pure ?_
  show wpAny _ _ (handedOut (.ref D)) _ _ _
  rw [handedOut_of (v := .ref D) rfl]
  first
    | exact wpAny_pure (wpAny_pure h)
    | exact wpAny_pure h
    | exact wpAny_pure (wpAny_bind (wpAny_pure (wpAny_pure h)))
open PySem.W PySem.Calls in
theorem kitx_any (c : ExcC K D) : KitX K (.ref x) (.ref D) (fun h => InstAt h x ox D od) where
  ty := fun _ _ _ I => I.type
  it := fun _ _ X _ => by
    obtain ⟨cdD, hcD, _⟩ := any_some c.hd
    unfold clsIn at hcD
    split at hcD
    · rename_i c' d' cd' sl' ho
      intro A' Q' E' s' k q
      unfold isType loadHead
      exact wpAny_bind (wpAny_loadPart (k _ _ (X _ _ ho)) (wpAny_pure q))
    · cases hcD
  ne := fun h tp dd its n sl X htp => by
    obtain ⟨cdD, hcD, _⟩ := any_some c.hd
    refine Bool.eq_false_iff.mpr fun q => ?_
    have e : D = tp := Value.ref.inj (beq_iff_eq.mp q)
    subst e
    unfold clsIn at hcD
    split at hcD
    · rename_i c' d' cd' sl' ho
      have z := (X _ _ ho).symm.trans htp
      cases z
    · cases hcD
  ca := fun X I k => class_any c X I k
end
def rIsX (K : PySem.W.Frag) (D a : Addr) (d : Option Addr) : List V → Hp → VK → Prop := fun xs H Q => ∃ (c : V) (cv : Value) (b : Bool), xs = [.ref a, c] ∧ (∀ u, RelV c u → u = cv) ∧ PySem.W.kitOne K (.ref D) cv = some b ∧ (d = none ∨ ∃ dd fs, d = some dd ∧ H dd = some (.xd fs)) ∧ Q (.bl b) H
theorem call_isX {X : Cx} {a D : Addr} {oe : Obj} {d : Option Addr} (hm : (a, oe) ∈ X.pn) (C : ExcC X.K D) (hz : Zc (.ref D) d oe) (hf : ∃ vs, oe.data = .fields vs) : CallR X (.builtin "isinstance") (rIsX X.K D a d) := by
  intro pins s σ H xs us Q I r h
  obtain ⟨c, cv, b, rfl, hcv, e, hd, q⟩ := h
  cases r with
  | cons rx rr =>
    cases rr with
    | cons rt rr =>
      cases rr
      cases rx
      have ec := hcv _ rt
      subst ec
      obtain ⟨hget, _⟩ := I.pin (a, oe) (List.mem_append.mpr (.inl hm))
      obtain ⟨vs, hv⟩ := hf
      have J : ∃ od, PySem.W.InstAt s.heap a oe D od := by
        rcases hd with hd | ⟨dd, fs, hd, hh⟩
        · exact ⟨none, hget, hz.1, by unfold PySem.W.notCls; rw [hv] <;> rfl, by rw [hz.2, hd]; trivial⟩
        · obtain ⟨mA, hns, _⟩ := I.hok dd _ hh
          obtain ⟨od, ho, _⟩ := lookIn_ns hns
          exact ⟨some od, hget, hz.1, by unfold PySem.W.notCls; rw [hv] <;> rfl, by rw [hz.2, hd]; exact ho⟩
      obtain ⟨od, J⟩ := J
      exact PySem.W.kia_one (kitx_any C) I.kIn J e (fun z => nomatch z) fun tk => ⟨.bl b, H, I.kept (t' := tk) fun _ _ z => z, rfl, q⟩
def mExF (e : MX) (f : Str) : ME := fun ρ => match e.fs.lookup f with
  | some x => .ok (x, ρ)
  | none => .stuck
def mExIs (e : MX) (tab : List (Str × Bool)) : ME := fun ρ => match tab.lookup e.cls with
  | some b => .ok (.bl b, ρ)
  | none => .stuck
theorem XFs.look {K : PySem.W.Frag} {H : Hp} {f : Str} {x : MV} : ∀ {xs : List (Str × MV)} {vs : List (Str × V)}, XFs K H xs vs → xs.lookup f = some x → ∃ v, vs.lookup f = some v ∧ RV K H x v
  | [], _, _, h => by simp at h
  | (n, y) :: xs, vs, r, h => by
    obtain ⟨v, rr, e1, e2, e3⟩ := r
    subst e1
    rw [List.lookup_cons] at h ⊢
    cases eq : f == n with
    | true => rw [eq] at h; cases h; exact ⟨v, rfl, e2⟩
    | false => rw [eq] at h; exact XFs.look e3 h
section
variable {X : Cx} {c : Ct} {a C : Addr} {oe : Obj} {d : Option Addr} {pn : List (Addr × Obj)} {e : MX} {i : Nat} {n f y : Str} {p p1 p2 pos : Pos}
theorem me_xf (T : XfC X.K C) (hno : PySem.W.findIn X.K (.ref C) f = some none) (hz : Zc (.ref C) d oe) (hf : ∃ vs, oe.data = .fields vs) (hN : X.N[i]? = some n) (hv : Vis X.env.scope n) (hK : c.K = X.K := by rfl)
    (hb : attributeBase (.Name n p) f X.env (eval (.Name n p) X.env) = eval (.Name n p) X.env := by rfl) (hd : (n == ("__debug__" : Str)) = false := by decide) (hcd : (n == ("__classdict__" : Str)) = false := by decide) :
    PE (X.suite a ((a, oe) :: pn)) (.Attribute (.Name n p) f pos) (rdE (cH c i a e d) (mExF e f)) := by
  refine PEw (pe_xf T hno hz hf (pe_var (i := i) hN hv hd hcd) hb) fun σ H Q ⟨F, Hk, bp, ρ, S, h⟩ => ?_
  obtain ⟨⟨bq, e1, e2⟩, xi⟩ := S.2.2
  refine ⟨.ref a, S.1.bor (i, a) (by rw [e1]; exact List.mem_cons_self ..), rfl, rfl, ?_⟩
  unfold mExF at h
  cases el : e.fs.lookup f with
  | none => rw [el] at h; exact h.elim
  | some x =>
    rw [el] at h
    rcases xi with ⟨z, _⟩ | ⟨dx, vfs, q1, q2, q3⟩
    · rw [z] at el; cases el
    · obtain ⟨v, g1, g2⟩ := (q3 (cH c i a e d).K Hk).look el
      exact ⟨dx, vfs, v, q1, S.1.fr _ _ q2, g1, h _ _ _ (Ex.refl _) S.1 g2⟩
theorem me_isXG {tab : List (Str × Bool)} {v : V} {cv : Value} (hm : (a, oe) ∈ X.pn) (T : ExcC X.K C) (hz : Zc (.ref C) d oe) (hf : ∃ vs, oe.data = .fields vs) (hN : X.N[i]? = some n) (hv : Vis X.env.scope n) (hi : X.mg "isinstance" = none) (hg : Gl X "isinstance") (he : PE X (.Name y p2) (tC v)) (hc : ∀ u, RelV v u → u = cv)
    (ht : ∀ b, tab.lookup e.cls = some b → PySem.W.kitOne X.K (.ref C) cv = some b)
    (hd : (n == ("__debug__" : Str)) = false := by decide) (hcd : (n == ("__classdict__" : Str)) = false := by decide) :
    PE X (.Call (.Name "isinstance" p) [.Name n p1, .Name y p2] [] pos) (rdE (cH c i a e d) (mExIs e tab)) := by
  have ha : PA X [.Name n p1, .Name y p2] (tCons (tVar i) (tCons (tC v) tNil)) := pa_cons (pe_var (i := i) hN hv hd hcd) (pa_cons he pa_nil)
  refine PEw (pe_callB (call_isX hm T hz hf) hg hi (by decide +kernel) ha (by decide) (by decide)) fun σ H Q ⟨F, Hk, bp, ρ, S, h⟩ => ?_
  obtain ⟨⟨bq, e1, e2⟩, xi⟩ := S.2.2
  refine ⟨.ref a, S.1.bor (i, a) (by rw [e1]; exact List.mem_cons_self ..), ?_⟩
  unfold mExIs at h
  cases el : tab.lookup e.cls with
  | none => rw [el] at h; exact h.elim
  | some b =>
    rw [el] at h
    refine ⟨v, cv, b, rfl, hc, ht b el, ?_, h _ _ _ (Ex.refl _) S.1 (RV.bl.mpr rfl)⟩
    rcases xi with ⟨_, z⟩ | ⟨dx, vfs, q1, q2, q3⟩
    · exact .inl z
    · exact .inr ⟨dx, vfs, q1, S.1.fr _ _ q2⟩
theorem me_isX {tab : List (Str × Bool)} (hm : (a, oe) ∈ X.pn) (T : ExcC X.K C) (hz : Zc (.ref C) d oe) (hf : ∃ vs, oe.data = .fields vs) (hN : X.N[i]? = some n) (hv : Vis X.env.scope n) (hi : X.mg "isinstance" = none) (hg : Gl X "isinstance") (hy : Gl X y) {Dy : Addr} (my : X.mg y = some (.ref Dy))
    (ht : ∀ b, tab.lookup e.cls = some b → PySem.W.kitOne X.K (.ref C) (.ref Dy) = some b)
    (hd : (n == ("__debug__" : Str)) = false := by decide) (hcd : (n == ("__classdict__" : Str)) = false := by decide) (hyd : (y == ("__debug__" : Str)) = false := by decide) :
    PE X (.Call (.Name "isinstance" p) [.Name n p1, .Name y p2] [] pos) (rdE (cH c i a e d) (mExIs e tab)) := me_isXG hm T hz hf hN hv hi hg (pe_glob hy my (v := .ref Dy) rfl hyd) (fun _ r => r) ht hd hcd
end
theorem fa_nil {α : Type} {P : α → Prop} : ∀ p ∈ ([] : List α), P p := fun _ h => nomatch h
theorem fa_cons {α : Type} {P : α → Prop} {x : α} {l : List α} (h : P x) (t : ∀ p ∈ l, P p) : ∀ p ∈ x :: l, P p := fun p hp => by
  rcases List.mem_cons.mp hp with rfl | hp
  · exact h
  · exact t p hp
def xcB (K : PySem.W.Frag) (C : Addr) (fs : List Str) : Bool := xfB K C && decide (PySem.W.findIn K (.ref C) "__class__" = some (some (.builtin "object.__class__"))) && decide (PySem.W.specialIn K (.builtin "object.__class__") "__get__" = some (some (.builtin "getset_descriptor.__get__"))) && decide (PySem.W.takesIn K (.builtin "object.__class__") = some true) && decide (PySem.W.mroIn K C (.type "object") = some true) && fs.all (fun f => decide (PySem.W.findIn K (.ref C) f = some none))
structure XcF (K : PySem.W.Frag) (mg : Str → Option Value) (fs : List Str) (x : Str) : Prop where
  ex : ∃ C, mg x = some (.ref C) ∧ xcB K C fs = true
structure KiT (K : PySem.W.Frag) (mg : Str → Option Value) (y x : Str) (b : Bool) : Prop where
  ex : ∃ C D, mg x = some (.ref C) ∧ mg y = some (.ref D) ∧ PySem.W.kitOne K (.ref C) (.ref D) = some b
structure XcG (K : PySem.W.Frag) (C : Addr) (fs : List Str) : Prop where
  xf : XfC K C
  xc : ExcC K C
  no : ∀ f ∈ fs, PySem.W.findIn K (.ref C) f = some none
theorem xcB_ok {K : PySem.W.Frag} {C : Addr} {fs : List Str} (h : xcB K C fs = true) : XcG K C fs := by
  unfold xcB at h
  simp only [Bool.and_eq_true, decide_eq_true_eq, List.all_eq_true] at h
  obtain ⟨⟨⟨⟨⟨h1, h2⟩, h3⟩, h4⟩, h5⟩, h6⟩ := h
  have T := xfB_ok h1
  exact ⟨T, ⟨T.ga, T.gg, T.exC, T.hdC, h2, h3, h4, h5⟩, h6⟩
theorem xc_at {K : PySem.W.Frag} {mg : Str → Option Value} {fs ts : List Str} {tab : List (Str × Bool)} {x : Str} {C : Addr} (Xs : ∀ x ∈ ts, XcF K mg fs x) (ht : tab.all (fun p => !p.2 || ts.contains p.1) = true) (hC : mg x = some (.ref C)) (hT : (x, true) ∈ tab) : XcG K C fs := by
  have h := List.all_eq_true.mp ht _ hT
  simp at h
  obtain ⟨C', h1, h2⟩ := (Xs x h).ex
  rw [hC] at h1
  cases h1
  exact xcB_ok h2
section
variable {X : Cx} {c : Ct} {a C : Addr} {oe : Obj} {d : Option Addr} {pn : List (Addr × Obj)} {e : MX} {i : Nat} {n f y : Str} {p p1 p2 pos : Pos} {fs : List Str} {tab tab2 : List (Str × Bool)}
theorem mx_f (G : XcG X.K C fs) (hf : f ∈ fs) (hz : L2N.Zn (.ref C) d oe) (hv : ∃ vs, oe.data = .fields vs) (hN : X.N[i]? = some n) (hl : Vis X.env.scope n)
    (hb : attributeBase (.Name n p) f X.env (eval (.Name n p) X.env) = eval (.Name n p) X.env := by rfl) (hd : (n == ("__debug__" : Str)) = false := by decide) (hcd : (n == ("__classdict__" : Str)) = false := by decide) (hK : c.K = X.K := by rfl) :
    PE (X.suite a ((a, oe) :: pn)) (.Attribute (.Name n p) f pos) (rdE (cH c i a e d) (mExF e f)) := me_xf G.xf (G.no f hf) hz.zc hv hN hl hK hb hd hcd
theorem mx_isG (hm : (a, oe) ∈ X.pn) (G : XcG X.K C fs) (Ks : ∀ b, tab2.lookup e.cls = some b → KiT X.K X.mg y e.cls b) (ney : ∃ D, X.mg y = some (.ref D)) (hC : X.mg e.cls = some (.ref C)) (hz : L2N.Zn (.ref C) d oe) (hv : ∃ vs, oe.data = .fields vs) (hN : X.N[i]? = some n) (hl : Vis X.env.scope n) (hi : X.mg "isinstance" = none) (hg : Gl X "isinstance") (hy : Gl X y)
    (hd : (n == ("__debug__" : Str)) = false := by decide) (hcd : (n == ("__classdict__" : Str)) = false := by decide) (hyd : (y == ("__debug__" : Str)) = false := by decide) :
    PE X (.Call (.Name "isinstance" p) [.Name n p1, .Name y p2] [] pos) (rdE (cH c i a e d) (mExIs e tab2)) := by
  obtain ⟨Dy, my⟩ := ney
  refine me_isX hm G.xc hz.zc hv hN hl hi hg hy my (fun b hb => ?_) hd hcd hyd
  obtain ⟨C', D', k1, k2, k3⟩ := (Ks _ hb).ex
  rw [hC] at k1
  cases k1
  rw [my] at k2
  cases k2
  exact k3
theorem mx_isT {T : String} (hm : (a, oe) ∈ X.pn) (G : XcG X.K C fs) (Ks : PySem.W.kitOne X.K (.ref C) (.type T) = some true) (ht : tab2.all (·.2) = true) (hz : L2N.Zn (.ref C) d oe) (hv : ∃ vs, oe.data = .fields vs) (hN : X.N[i]? = some n) (hl : Vis X.env.scope n) (hi : X.mg "isinstance" = none) (hg : Gl X "isinstance") (hy : Gl X y) (my : X.mg y = none) (hb : bootBuiltins y = some (.type T))
    (hd : (n == ("__debug__" : Str)) = false := by decide) (hcd : (n == ("__classdict__" : Str)) = false := by decide) (hyn : y ≠ "__name__" := by decide) (hyd : (y == ("__debug__" : Str)) = false := by decide) :
    PE X (.Call (.Name "isinstance" p) [.Name n p1, .Name y p2] [] pos) (rdE (cH c i a e d) (mExIs e tab2)) :=
  me_isXG hm G.xc hz.zc hv hN hl hi hg (pe_bltn hy my hb (v := .ty T) rfl hyn hyd) (fun _ r => r) (fun b hb => by
    have := List.all_eq_true.mp ht _ (lookup_mem hb)
    have e : b = true := this
    rw [e]; exact Ks) hd hcd
end
def inCls (s : Stmt) (j : Nat) : Stmt := match s with
  | .ClassDef _ _ _ b _ _ _ _ _ _ _ => b.getD j (.Pass ⟨0, 0, 0, 0⟩)
  | _ => .Pass ⟨0, 0, 0, 0⟩
theorem owX_mk {K : PySem.W.Frag} {mg : Str → Option Value} {x : Str} {C fI : Addr} {nm q : Str} {N : Addr} {bs bm : List Value} {sn : List Str} {sub : List Value} {ab : Bool} {col : Option Bool} {dd : Option Addr} {k0 k1 k2 k3 k5 : Option Value}
    (m : mg x = some (.ref C)) (l : K.lookup C = some (excClassObj nm q C N bs bm true sn sub ab col dd k0 k1 k2 k3 k5 "ValueError.__new__")) (r : PySem.HandSPX.refsVE bm = true) (sa : PySem.W.findIn K (.ref C) "__setattr__" = some (some (.builtin "object.__setattr__")))
    (eC : PySem.W.subIn K (.ref C) (.type "BaseException") = some true) (tC : PySem.W.typeIn K (.ref C) = some (.type "type")) (kC : PySem.W.keepIn K (.ref C) = true) (iC : PySem.W.findIn K (.ref C) "__init__" = some (some (.ref fI))) (tI : PySem.W.typeIn K (.ref fI) = some (.type "function")) : OwX K mg x C fI :=
  ⟨⟨⟨nm, q, N, bs, bm, sn, sub, ab, col, dd, k0, k1, k2, k3, k5, l, r⟩, sa, eC, tC, kC⟩, m, iC, tI⟩
end Tm
set_option Elab.async false
set_option linter.all false
set_option maxRecDepth 100000
set_option maxHeartbeats 2000000
namespace Tm
open PySem L2
open Evl (Ex ex_rd ex_l ex_t)
section
variable {X : Cx} {c : Ct} {p pos apos cpos : Pos} {o e : Expr} {es : List Expr} {a : ME} {m : MA}
def smE (f : Str → List MV → Option MV) (z : Str) (ys : List MV) (ρ2 : Env) : Res (MV × Env) := match f z ys with | some w => .ok (w, ρ2) | none => .stuck
def mSm (f : Str → List MV → Option MV) (a : ME) (b : MA) : ME := fun ρ => (a ρ).bind fun x ρ1 => match x with
  | .str z => (b ρ1).bind (smE f z)
  | _ => .stuck
def SmS (K : PySem.W.Frag) (f : Str → List MV → Option MV) (r : V → List V → Hp → VK → Prop) : Prop := ∀ (z : Str) (ys : List MV) (w : MV) (us : List V) (Hk H : Hp) (Q : VK), f z ys = some w → Ex Hk H → RVs K Hk ys us → (∀ u, RV K Hk w u → Q u H) →
  (∀ q ob, H q = none → RV K (upd Hk q ob) w (.ref q) → Q (.ref q) (upd H q ob)) → r (.str z) us H Q
theorem rd_sm {f : Str → List MV → Option MV} {r : V → List V → Hp → VK → Prop} (s : SmS c.K f r) {σ : St} {H : Hp} {Q : VK} (h : rdE c (mSm f a m) σ H Q) : tBM c.K "str" r (rdE c a) (rdA c m) σ H Q := by
  obtain ⟨F, Hk, bp, ρ, S, h⟩ := h
  refine rdw (bE postE S h) fun v H1 ⟨Hk1, x, ρ1, x1, S1, r1, h1⟩ => ?_
  cases x with
  | str z =>
    rw [RV.str.mp r1]
    refine ⟨rfl, ?_⟩
    refine rdAw (bA postE S1 h1) fun us H2 ⟨Hk2, ys, ρ2, x2, S2, r2, h2⟩ => ?_
    have h2 : okE c F Hk2 bp σ Q (match f z ys with | some w => .ok (w, ρ2) | none => .stuck) := h2
    cases ef : f z ys with
    | none => rw [ef] at h2; exact h2.elim
    | some w =>
      rw [ef] at h2
      exact s z ys w us Hk2 H2 Q ef S2.1.ex r2 (fun u ru => h2 _ _ u (Ex.refl _) S2.1 ru) fun q ob hq ru => h2 _ _ _ (Ex.new (S2.1.ex.back hq)) (S2.1.new hq) ru
  | _ => exact h1.elim
theorem me_sm {f : Str → List MV → Option MV} {r : V → List V → Hp → VK → Prop} {id : String} {name : Str} (s : SmS c.K f r) (slot : Slot "str" name id) (hty : typeOf (.builtin id) = pure (.type "method_descriptor")) (hm : MtR X id r) (ho : PE X o (rdE c a)) (ha : PA X (e :: es) (rdA c m)) (hK : c.K = X.K := by rfl)
    (hbase : attributeBase o name X.env (eval o X.env) = eval o X.env := by rfl)
    (hfew : ((backTo cpos (starEach (e :: es) X.env)).all (fun x => !x.1) && (backToKw cpos (keywordEach [] X.env)).all (fun x => x.1.isSome)
      && decide ((e :: es).length + ([] : List Keyword).length + (if ([] : List Keyword).isEmpty then 0 else 1) < 30)) = true := by rfl)
    (hline : (apos.endLine == cpos.line) = true := by rfl) (hs : starEach (e :: es) X.env = (false, eval e X.env) :: starEach es X.env := by rfl) (hplain : (backTo cpos (starEach es X.env)).any (·.1) = false := by rfl) :
    PE X (.Call (.Attribute o name apos) (e :: es) [] cpos) (rdE c (mSm f a m)) :=
  PEw (pe_bm PySem.F.plainAttrs_str slot hty hm ho ha hbase hfew hline hs hplain) fun σ H Q h => by
    have := rd_sm s h
    rw [hK] at this
    exact this
end
def strsOf : List MV → Option (List Str)
  | [] => some []
  | .str z :: r => (match strsOf r with | some l => some (z :: l) | none => none)
  | _ :: _ => none
theorem strs_rv {K : PySem.W.Frag} {H : Hp} : ∀ {xs : List MV} {ss : List Str} {vs : List V}, strsOf xs = some ss → RVs K H xs vs → vs = ss.map V.str
  | [], ss, vs, h, r => by cases h; exact RVs.nil.mp r
  | .str z :: xs, ss, vs, h, r => by
    obtain ⟨v, us, rfl, r1, r2⟩ := RVs.cons.mp r
    unfold strsOf at h
    cases e : strsOf xs with
    | none => rw [e] at h; cases h
    | some l =>
      rw [e] at h
      cases h
      rw [RV.str.mp r1, strs_rv e r2]; rfl
  | .non :: _, _, _, h, _ => by cases h
  | .bl _ :: _, _, _, h, _ => by cases h
  | .int _ :: _, _, _, h, _ => by cases h
  | .tup _ :: _, _, _, h, _ => by cases h
  | .lst _ :: _, _, _, h, _ => by cases h
  | .own _ :: _, _, _, h, _ => by cases h
  | .raw _ :: _, _, _, h, _ => by cases h
  | .scr _ :: _, _, _, h, _ => by cases h
  | .fnc _ :: _, _, _, h, _ => by cases h
  | .obj _ _ :: _, _, _, h, _ => by cases h
  | .dct _ _ :: _, _, _, h, _ => by cases h
  | .dow _ _ :: _, _, _, h, _ => by cases h
  | .dot _ _ :: _, _, _, h, _ => by cases h
def joinM (z : Str) (ss : List Str) : Option MV := if decide ((ss.map (·.length)).sum + ss.length * z.length ≤ 16777216) then some (.str (Txt.join z ss)) else none
def smJoin : Str → List MV → Option MV
  | z, [.lst xs] => (strsOf xs).bind (joinM z)
  | z, [.tup xs] => (strsOf xs).bind (joinM z)
  | _, _ => none
theorem ss_join {K : PySem.W.Frag} : SmS K smJoin (fun x xs H Q => ∃ a p, ∃ ys : List Str, x = .str a ∧ xs = [.ref p] ∧ (SqL K H p (ys.map V.str) ∨ SqT K H p (ys.map V.str)) ∧ (ys.map (·.length)).sum + ys.length * a.length ≤ 16777216 ∧ Q (.str (Txt.join a ys)) H) := by
  intro z ys w us Hk H Q e ex r q qn
  have fin : ∀ ss, joinM z ss = some w → (ss.map (·.length)).sum + ss.length * z.length ≤ 16777216 ∧ w = .str (Txt.join z ss) := fun ss h => by
    unfold joinM at h
    split at h
    · rename_i hd
      exact ⟨of_decide_eq_true hd, by cases h; rfl⟩
    · cases h
  unfold smJoin at e
  split at e
  · rename_i xs
    obtain ⟨v, rfl, rv⟩ := rvs1 r
    obtain ⟨p, vs, rfl, h1, s1⟩ := RV.lst.mp rv
    cases es : strsOf xs with
    | none => rw [es] at e; cases e
    | some ss =>
      rw [es] at e
      obtain ⟨f1, rfl⟩ := fin ss e
      have := strs_rv es s1
      subst this
      exact ⟨z, p, ss, rfl, rfl, .inl (SqL.of (ex _ _ h1)), f1, q _ (RV.str.mpr rfl)⟩
  · rename_i xs
    obtain ⟨v, rfl, rv⟩ := rvs1 r
    obtain ⟨p, vs, rfl, h1, s1⟩ := RV.tup.mp rv
    cases es : strsOf xs with
    | none => rw [es] at e; cases e
    | some ss =>
      rw [es] at e
      obtain ⟨f1, rfl⟩ := fin ss e
      have := strs_rv es s1
      subst this
      exact ⟨z, p, ss, rfl, rfl, .inr (ex_t ex h1), f1, q _ (RV.str.mpr rfl)⟩
  · cases e
end Tm
set_option Elab.async false
set_option linter.all false
set_option maxRecDepth 100000
set_option maxHeartbeats 2000000
namespace Tm
open PySem L2
open Evl (Ex ex_rd ex_l ex_t)
inductive BA where
  | v (x : MV) | b (i : Nat)
abbrev MB := Env → Res (List BA × Env)
def idxB : List BA → List Nat
  | [] => []
  | .v _ :: r => idxB r
  | .b i :: r => i :: idxB r
def MV.held : MV → Bool
  | .own _ => true
  | .obj _ _ => true
  | _ => false
def fill : List BA → Env → Option (List MV)
  | [], _ => some []
  | .v x :: r, ρ => (match fill r ρ with | some xs => some (x :: xs) | none => none)
  | .b i :: r, ρ => (match ρ[i]?, fill r ρ with | some (some x), some xs => if x.held then some (x :: xs) else none | _, _ => none)
def back (ρ : Env) : List Nat → Env → Env
  | [], _ => ρ
  | i :: is, os => back (ρ.set i (os.head?).join) is os.tail
def BVs (K : PySem.W.Frag) (Hk : Hp) (σ : St) : List BA → List V → Prop
  | [], vs => vs = []
  | .v x :: r, vs => ∃ v us, vs = v :: us ∧ RV K Hk x v ∧ BVs K Hk σ r us
  | .b i :: r, vs => ∃ v us, vs = v :: us ∧ σ[i]? = some (some v) ∧ BVs K Hk σ r us
theorem BVs.mono {K : PySem.W.Frag} {Hk Hk' : Hp} {σ : St} (e : Ex Hk Hk') : ∀ {xs : List BA} {vs : List V}, BVs K Hk σ xs vs → BVs K Hk' σ xs vs
  | [], _, h => h
  | .v x :: r, vs, ⟨v, us, e1, e2, e3⟩ => ⟨v, us, e1, RV.mono e _ _ e2, BVs.mono e e3⟩
  | .b i :: r, vs, ⟨v, us, e1, e2, e3⟩ => ⟨v, us, e1, e2, BVs.mono e e3⟩
theorem BVs.length {K : PySem.W.Frag} {Hk : Hp} {σ : St} : ∀ {xs : List BA} {vs : List V}, BVs K Hk σ xs vs → vs.length = xs.length
  | [], _, h => by rw [show _ = [] from h]; rfl
  | .v x :: r, vs, ⟨v, us, e1, e2, e3⟩ => by rw [e1, List.length_cons, List.length_cons, e3.length]
  | .b i :: r, vs, ⟨v, us, e1, e2, e3⟩ => by rw [e1, List.length_cons, List.length_cons, e3.length]
def okBA (c : Ct) (F Hk : Hp) (bp : List (Nat × Addr)) (σ : St) (Q : List V → Hp → Prop) : Res (List BA × Env) → Prop
  | .ok (xs, ρ') => ∀ Hk' H' vs, Ex Hk Hk' → RS c.K F Hk' H' bp σ ρ' → BVs c.K Hk' σ xs vs → Q vs H'
  | .exc e ρ' => Wish c F Hk bp σ e ρ'
  | .stuck => False
theorem okBA.mono {c : Ct} {F Hk Hk' : Hp} {bp : List (Nat × Addr)} {σ : St} {Q : List V → Hp → Prop} {r : Res (List BA × Env)} (x : Ex Hk Hk') (h : okBA c F Hk bp σ Q r) : okBA c F Hk' bp σ Q r := by
  cases r with
  | ok a => exact fun Hk2 H2 v x2 => h Hk2 H2 v (x.trans x2)
  | exc e ρ => exact Wish.mono x h
  | stuck => exact h
end Tm
set_option Elab.async false
set_option linter.all false
set_option maxRecDepth 100000
set_option maxHeartbeats 2000000
namespace Tm
open PySem L2
open Evl (Ex ex_rd ex_l ex_t)
def cbE (f : MF) (args : List BA) (ρ : Env) : Res (MV × Env) := match fill args ρ with
  | some xs => (match f xs with | .ok (v, os) => .ok (v, back ρ (idxB args) os) | .exc e os => .exc e (back ρ (idxB args) os) | .stuck => .stuck)
  | none => .stuck
end Tm
set_option Elab.async false
set_option linter.all false
set_option maxRecDepth 100000
set_option maxHeartbeats 2000000
namespace Tm
open PySem L2
open Evl (Ex ex_rd ex_l ex_t)
def putM (f : Str) (v : MV) : List (Str × MV) → List (Str × MV)
  | [] => [(f, v)]
  | (g, x) :: r => if g = f then (g, v) :: r else (g, x) :: putM f v r
theorem look_eq {α : Type} {f g : Str} {x : α} {r : List (Str × α)} : ((g, x) :: r).lookup f = if g = f then some x else r.lookup f := by
  rw [List.lookup_cons]
  by_cases e : g = f
  · subst e; simp
  · rw [if_neg e]
    have : (f == g) = false := by simpa using fun z => e z.symm
    rw [this]
section
variable {K : PySem.W.Frag} {Hk H : Hp}
theorem OFs.fresh : ∀ {fs : List (Str × MV)} {vfs : List (Str × V)} {B : List Addr} {f : Str}, OFs K Hk H fs vfs B → fs.lookup f = none → vfs.lookup f = none ∧
    ∀ (Hk' H' : Hp) (x' : MV) (v' : V) (A1' : List Addr), Ex Hk Hk' → (∀ a ∈ B, ∀ o, H a = some o → H' a = some o) → OF K Hk' H' x' v' A1' → OFs K Hk' H' (putM f x' fs) (putF f v' vfs) (B ++ A1')
  | [], vfs, B, f, ⟨e1, e2⟩, _ => by
    subst e1 e2
    exact ⟨rfl, fun Hk' H' x' v' A1' ex k o' => ⟨v', [], A1', [], rfl, by simp, o', rfl, rfl⟩⟩
  | (n, y) :: fs, vfs, B, f, ⟨v, r, C, D, e1, e2, o1, o2⟩, h => by
    subst e1 e2
    rw [look_eq] at h
    by_cases e : n = f
    · rw [if_pos e] at h; cases h
    · rw [if_neg e] at h
      obtain ⟨g1, g4⟩ := OFs.fresh o2 h
      refine ⟨by rw [look_eq, if_neg e]; exact g1, fun Hk' H' x' v' A1' ex k o' => ?_⟩
      unfold putM putF
      rw [if_neg e, if_neg e]
      exact ⟨v, _, C, D ++ A1', rfl, by simp, o1.move ex fun a ha => k a (by simp [ha]), g4 Hk' H' x' v' A1' ex (fun a ha => k a (by simp [ha])) o'⟩
theorem OFs.len : ∀ {fs : List (Str × MV)} {vfs : List (Str × V)} {B : List Addr}, OFs K Hk H fs vfs B → vfs.length = fs.length
  | [], vfs, B, ⟨e1, _⟩ => by rw [e1]; rfl
  | _ :: fs, vfs, B, ⟨v, r, C, D, e1, e2, o1, o2⟩ => by rw [e1, List.length_cons, List.length_cons, o2.len]
theorem OV.obj {C : Str} {fs : List (Str × MV)} {v : V} {A : List Addr} : OV K Hk H (.obj C fs) v A ↔ ∃ p CA dx vfs B, v = .ref p ∧ A = p :: B ∧ PySem.W.nsIn K mainGlobals C = some (some (.ref CA)) ∧ H p = some (.ins CA dx vfs) ∧ OFs K Hk H fs vfs B ∧ (p :: B).Nodup := by
  unfold OV; rfl
theorem OF.own {xs : List MV} {v : V} {A : List Addr} : OF K Hk H (.own xs) v A ↔ ∃ p vs, v = .ref p ∧ A = [p] ∧ H p = some (.lst vs) ∧ RVs K Hk xs vs := by
  unfold OF; rfl
end
structure ObC (K : PySem.W.Frag) (C : Str) (fs : List Str) : Prop where
  ex : ∀ CA, PySem.W.nsIn K mainGlobals C = some (some (.ref CA)) → Cls K CA ∧ ∀ f ∈ fs, NoAttr K CA f
end Tm
set_option Elab.async false
set_option linter.all false
set_option maxRecDepth 100000
set_option maxHeartbeats 2000000
namespace Tm
open PySem L2
open Evl (Ex ex_rd ex_l ex_t)
structure ObM (P : Program) (w : World) (K : PySem.W.Frag) (mg : Str → Option Value) (base : Heap) (C m : Str) (k : Nat) (ps : List Str) (bs : List Nat) (f : MF) : Prop where
  ex : ∃ CA g fd, PySem.W.nsIn K mainGlobals C = some (some (.ref CA)) ∧ Cls K CA ∧ Meth K CA m g ∧ FnOk P w K mg base (L2N.CX P w) k g fd ps (spF K mg ps.length bs f) ∧ Binds K fd ps []
structure ObN (P : Program) (w : World) (K : PySem.W.Frag) (mg : Str → Option Value) (base : Heap) (C : Str) (k : Nat) (f : MF) : Prop where
  ex : ∃ CA g fd ps, PySem.W.nsIn K mainGlobals C = some (some (.ref CA)) ∧ mg C = some (.ref CA) ∧ Mk K CA g ∧ FnOk P w K mg base (L2N.CX P w) k g fd ps (spF K mg 1 [0] f) ∧ Binds K fd ps []
end Tm
set_option Elab.async false
set_option linter.all false
set_option maxRecDepth 100000
set_option maxHeartbeats 2000000
namespace Tm
open PySem L2
open Evl (Ex ex_rd ex_l ex_t)
def FnA (K : PySem.W.Frag) (a : Addr) : Prop := ∃ o, K.lookup a = some o ∧ o.cls = .type "function"
theorem FnA.ty {X : Cx} {pins : List (Addr × Obj)} {σ : St} {H : Hp} {s : Shared} {a : Addr} (I : Inv X pins σ H s) (h : FnA X.K a) : s.TypeIs (.ref a) "function" := by
  obtain ⟨o, h1, h2⟩ := h
  exact ⟨o, I.kIn _ _ h1, h2⟩
structure FnI (K : PySem.W.Frag) (N : List Str) : Prop where
  fn : ∀ x ∈ N, ∀ a, PySem.W.nsIn K mainGlobals x = some (some (.ref a)) → FnA K a
  inj : ∀ x ∈ N, ∀ y ∈ N, ∀ a, PySem.W.nsIn K mainGlobals x = some (some (.ref a)) → PySem.W.nsIn K mainGlobals y = some (some (.ref a)) → x = y
structure FnT (P : Program) (w : World) (K : PySem.W.Frag) (mg : Str → Option Value) (base : Heap) (T : List (Str × MF)) : Prop where
  ex : ∀ x f, T.lookup x = some f → ∀ a, PySem.W.nsIn K mainGlobals x = some (some (.ref a)) → ∃ fd ps, FnOk P w K mg base (L2N.CX P w) 2 a fd ps (spF K mg 1 [] f) ∧ PySem.W.keepIn K (.ref a) = true ∧ Binds K fd ps []
end Tm
set_option Elab.async false
set_option linter.all false
set_option maxRecDepth 100000
set_option maxHeartbeats 2000000
namespace Tm
open PySem L2
open Evl (Ex ex_rd ex_l ex_t)
section
variable {X : Cx} {c : Ct} {C x f : Str} {fl : List Str} {i : Nat} {p p2 pos apos cpos : Pos} {e : Expr} {es : List Expr}
structure FnG (K : PySem.W.Frag) (mg : Str → Option Value) (x : Str) : Prop where
  ex : ∃ a, mg x = some (.ref a) ∧ PySem.W.nsIn K mainGlobals x = some (some (.ref a))
end
end Tm
set_option Elab.async false
set_option linter.all false
set_option maxRecDepth 100000
set_option maxHeartbeats 2000000
namespace Tm
open PySem L2
open Evl (Ex ex_rd ex_l ex_t)
structure ObX (P : Program) (w : World) (K : PySem.W.Frag) (mg : Str → Option Value) (base : Heap) (C m : Str) (k : Nat) (ps : List Str) (sp : Sp) : Prop where
  ex : ∃ CA g fd, PySem.W.nsIn K mainGlobals C = some (some (.ref CA)) ∧ Cls K CA ∧ Meth K CA m g ∧ FnOk P w K mg base (L2N.CX P w) k g fd ps sp ∧ Binds K fd ps []
end Tm
set_option Elab.async false
set_option linter.all false
set_option maxRecDepth 100000
set_option maxHeartbeats 2000000
namespace Tm
open PySem L2
theorem nr {α : Sort _} {a b : α} (h : a = b) : a = b := h
section
variable {α β : Type} {a b : ME} {ρ ρ1 : Env} {r : Option MV} {x y z : MV}
@[simp] theorem bind_ok {x : α} {f : α → Env → Res (β × Env)} : (Res.ok (x, ρ)).bind f = f x ρ := nr rfl
@[simp] theorem bind_exc {e : MX} {f : α → Env → Res (β × Env)} : (Res.exc e ρ : Res (α × Env)).bind f = .exc e ρ := nr rfl
@[simp] theorem bind_stuck {f : α → Env → Res (β × Env)} : (Res.stuck : Res (α × Env)).bind f = .stuck := nr rfl
@[simp] theorem b0_ok {x : α} {f : α → Env → Res (β × Env)} : (Res.ok (x, ρ)).b0 f = f x ρ := nr rfl
@[simp] theorem mVar_ap {i : Nat} : mVar i (r :: ρ) = match (r :: ρ)[i]? with
  | some (some (.own xs)) => .ok (.lst xs, (r :: ρ).set i (some (.lst xs)))
  | some (some (.obj _ _)) => .stuck
  | some (some (.dow _ _)) => .stuck
  | some (some (.dot _ _)) => .stuck
  | some (some x) => .ok (x, (r :: ρ))
  | _ => .stuck := nr rfl
@[simp] theorem mC_ap  : mC x (r :: ρ) = .ok (x, (r :: ρ)) := nr rfl
@[simp] theorem mOp_ap {f : MV → MV → Option MV} : mOp f a b (r :: ρ) = (a (r :: ρ)).bind fun x ρ1 => (b ρ1).bind fun y ρ2 => match f x y with | some z => .ok (z, ρ2) | none => .stuck := nr rfl
@[simp] theorem mUn_ap {f : MV → Option MV} : mUn f a (r :: ρ) = (a (r :: ρ)).bind fun x ρ1 => match f x with | some z => .ok (z, ρ1) | none => .stuck := nr rfl
@[simp] theorem mTest_ap  : mTest a (r :: ρ) = (a (r :: ρ)).bind fun x ρ1 => match x with | .bl b => .ok (b, ρ1) | _ => .stuck := nr rfl
@[simp] theorem mChain_ap {f g : MV → MV → Option MV} {d : ME} : mChain f g a b d (r :: ρ) = (a (r :: ρ)).bind fun x ρ1 => (b ρ1).bind fun y ρ2 => match f x y with
  | some (.bl true) => (d ρ2).bind fun z ρ3 => match g y z with | some w => .ok (w, ρ3) | none => .stuck
  | some (.bl false) => .ok (.bl false, ρ2)
  | _ => .stuck := nr rfl
@[simp] theorem mAndT_ap {a b : MT} : mAndT a b (r :: ρ) = (a (r :: ρ)).bind fun x ρ1 => if x then b ρ1 else .ok (false, ρ1) := nr rfl
@[simp] theorem mOrT_ap {a b : MT} : mOrT a b (r :: ρ) = (a (r :: ρ)).bind fun x ρ1 => if x then .ok (true, ρ1) else b ρ1 := nr rfl
@[simp] theorem mNotT_ap {a : MT} : mNotT a (r :: ρ) = (a (r :: ρ)).bind fun x ρ1 => .ok (!x, ρ1) := nr rfl
@[simp] theorem mBv_ap {t : MT} : mBv t (r :: ρ) = (t (r :: ρ)).bind fun x ρ1 => .ok (.bl x, ρ1) := nr rfl
@[simp] theorem mNil_ap  : mNil (r :: ρ) = .ok ([], (r :: ρ)) := nr rfl
@[simp] theorem mCons_ap {b : MA} : mCons a b (r :: ρ) = (a (r :: ρ)).bind fun x ρ1 => (b ρ1).bind fun xs ρ2 => .ok (x :: xs, ρ2) := nr rfl
@[simp] theorem mTup_ap {a : MA} : mTup a (r :: ρ) = (a (r :: ρ)).bind fun xs ρ1 => if szOk xs.length then .ok (.tup xs, ρ1) else .stuck := nr rfl
@[simp] theorem mLst_ap {a : MA} : mLst a (r :: ρ) = (a (r :: ρ)).bind fun xs ρ1 => if szOk xs.length then .ok (.lst xs, ρ1) else .stuck := nr rfl
@[simp] theorem mLstO_ap {a : MA} : mLstO a (r :: ρ) = (a (r :: ρ)).bind fun xs ρ1 => if szOk xs.length then .ok (.own xs, ρ1) else .stuck := nr rfl
@[simp] theorem mNo_ap  : mNo (r :: ρ) = .ok (none, (r :: ρ)) := nr rfl
@[simp] theorem mPart_ap  : mPart a (r :: ρ) = (a (r :: ρ)).bind fun x ρ1 => match x with | .int i => .ok (some i, ρ1) | _ => .stuck := nr rfl
@[simp] theorem mSl_ap {l h : Env → Res (Option Int × Env)} : mSl a l h (r :: ρ) = (a (r :: ρ)).bind fun x ρ1 => (l ρ1).bind fun i ρ2 => (h ρ2).bind fun j ρ3 => match fSl x i j with | some z => .ok (z, ρ3) | none => .stuck := nr rfl
@[simp] theorem gSet_ap {i : Nat} : gSet i x (r :: ρ) = if i < (r :: ρ).length then some ((r :: ρ).set i (some x)) else none := nr rfl
@[simp] theorem gsNil_ap  : gsNil [] (r :: ρ) = some (r :: ρ) := nr rfl
@[simp] theorem gsCons_ap {g : MG} {h : List MV → Env → Option Env} {xs : List MV} : gsCons g h (x :: xs) (r :: ρ) = match g x (r :: ρ) with | some ρ1 => h xs ρ1 | none => none := nr rfl
@[simp] theorem gTp_tup {n : Nat} {h : List MV → Env → Option Env} {xs : List MV} : gTp n h (.tup xs) ρ = if xs.length = n then h xs ρ else none := nr rfl
@[simp] theorem gTp_lst {n : Nat} {h : List MV → Env → Option Env} {xs : List MV} : gTp n h (.lst xs) ρ = if xs.length = n then h xs ρ else none := nr rfl
@[simp] theorem mAsg_ap {g : MG} : mAsg a g (r :: ρ) = (a (r :: ρ)).bind fun x ρ1 => match g x ρ1 with | some ρ2 => .ok (.nx, ρ2) | none => .stuck := nr rfl
@[simp] theorem mSetO_ap {i : Nat} : mSetO i a (r :: ρ) = (a (r :: ρ)).bind fun x ρ1 => if i < ρ1.length then .ok (.nx, ρ1.set i (some x)) else .stuck := nr rfl
@[simp] theorem mPass_ap  : mPass (r :: ρ) = .ok (.nx, (r :: ρ)) := nr rfl
@[simp] theorem mSeq_ap {a b : MS} : mSeq a b (r :: ρ) = (a (r :: ρ)).bind fun f ρ1 => match f with | .nx => b ρ1 | f => .ok (f, ρ1) := nr rfl
@[simp] theorem mIfS_ap {t : MT} {a b : MS} : mIfS t a b (r :: ρ) = (t (r :: ρ)).bind fun x ρ1 => if x then a ρ1 else b ρ1 := nr rfl
@[simp] theorem mRet_ap  : mRet a (r :: ρ) = (a (r :: ρ)).bind fun x ρ1 => .ok (.rt x, ρ1) := nr rfl
@[simp] theorem mDrop_ap  : mDrop a (r :: ρ) = (a (r :: ρ)).bind fun _ ρ1 => .ok (.nx, ρ1) := nr rfl
@[simp] theorem mMove_ap {i : Nat} : mMove i (r :: ρ) = match (r :: ρ)[i]? with
  | some (some (.obj _ _)) => .stuck
  | some (some x) => .ok (x, (r :: ρ).set i none)
  | _ => .stuck := nr rfl
@[simp] theorem mFz_ap  : mFz a (r :: ρ) = (a (r :: ρ)).bind fun x ρ1 => match fz x with | some y => .ok (y, ρ1) | none => .stuck := nr rfl
@[simp] theorem mCall_ap {f : MF} {a : MA} : mCall f a (r :: ρ) = (a (r :: ρ)).bind fun xs ρ1 => match f xs with
  | .ok (v, _) => .ok (v, ρ1)
  | .exc e _ => .exc e ρ1
  | .stuck => .stuck := nr rfl
@[simp] theorem mCall0_ap {f : MF} {a : MA} : mCall0 f a (r :: ρ) = (a (r :: ρ)).bind fun xs ρ1 => match f xs with
  | .ok (v, _) => .ok (v, ρ1)
  | _ => .stuck := nr rfl
@[simp] theorem mBlt_ap {f : List MV → Option MV} {a : MA} : mBlt f a (r :: ρ) = (a (r :: ρ)).bind fun xs ρ1 => match f xs with | some z => .ok (z, ρ1) | none => .stuck := nr rfl
def r1M (xs : List MV) (ρ1 : Env) : Res (List MV × Env) := match xs with
  | [.int j] => if inR j then .ok (rngM 0 1 j.toNat, ρ1) else .stuck
  | _ => .stuck
@[simp] theorem mR1_ap {a : MA} : mR1 a (r :: ρ) = (a (r :: ρ)).bind r1M := nr rfl
@[simp] theorem r1M_i {j : Int} (h : inR j = true) : r1M [.int j] ρ = .ok (rngM 0 1 j.toNat, ρ) := if_pos h
def lmM (f : List MV → List MV → Option (List MV × MV)) (i : Nat) (ys : List MV) (ρ1 : Env) : Res (MV × Env) := match ρ1[i]? with
  | some (some (.own xs)) => (match f xs ys with | some (zs, z) => .ok (z, ρ1.set i (some (.own zs))) | none => .stuck)
  | _ => .stuck
@[simp] theorem mLm_ap {f : List MV → List MV → Option (List MV × MV)} {i : Nat} {a : MA} : mLm f i a (r :: ρ) = if isOwn (r :: ρ) i then (a (r :: ρ)).bind (lmM f i) else .stuck := nr rfl
@[simp] theorem lmM_o {f : List MV → List MV → Option (List MV × MV)} {i : Nat} {xs ys : List MV} (h : ρ[i]? = some (some (.own xs))) : lmM f i ys ρ = (match f xs ys with | some (zs, z) => .ok (z, ρ.set i (some (.own zs))) | none => .stuck) := by unfold lmM; rw [h]
@[simp] theorem isOwn_o {i : Nat} {xs : List MV} (h : ρ[i]? = some (some (.own xs))) : isOwn ρ i = true := by unfold isOwn; rw [h]
@[simp] theorem has_o {i : Nat} {x : MV} (h : ρ[i]? = some (some x)) : has ρ i = true := by unfold has; rw [h]
def augM (f : MV → MV → Option MV) (i : Nat) (x y : MV) (ρ1 : Env) : Res (Fl × Env) := match f x y with
  | some z => if decide (i < ρ1.length) && flatM z then .ok (.nx, ρ1.set i (some z)) else .stuck
  | none => .stuck
theorem mAug_ap {f : MV → MV → Option MV} {i : Nat} {x : MV} (h : ρ[i]? = some (some x)) (h2 : flatM x = true) : mAug f i a ρ = (a ρ).bind (augM f i x) := by
  unfold mAug
  rw [h]
  simp only [h2, if_true]
  rfl
@[simp] theorem mAug_i {f : MV → MV → Option MV} {i : Nat} {k : Int} (h : (r :: ρ)[i]? = some (some (.int k))) : mAug f i a (r :: ρ) = (a (r :: ρ)).bind (augM f i (.int k)) := mAug_ap h rfl
@[simp] theorem augM_i {f : MV → MV → Option MV} {i : Nat} {k j : Int} : augM f i (.int k) (.int j) (r :: ρ) = (match f (.int k) (.int j) with | some z => if decide (i < (r :: ρ).length) && flatM z then .ok (.nx, (r :: ρ).set i (some z)) else .stuck | none => .stuck) := nr rfl
@[simp] theorem flatM_i {k : Int} : flatM (.int k) = true := nr rfl
@[simp] theorem mItV_ap  : mItV a (r :: ρ) = (a (r :: ρ)).bind fun x ρ1 => match itemsOf x with | some xs => .ok (xs, ρ1) | none => .stuck := nr rfl
@[simp] theorem mZip_ap {a : MA} : mZip a (r :: ρ) = (a (r :: ρ)).bind fun xs ρ1 => match xs with
  | [x, y] => (match zitM x, zitM y with | some xs, some ys => .ok (zipM xs ys, ρ1) | _, _ => .stuck)
  | _ => .stuck := nr rfl
@[simp] theorem zitM_l {xs : List MV} : zitM (.lst xs) = some xs := nr rfl
@[simp] theorem zitM_t {xs : List MV} : zitM (.tup xs) = some xs := nr rfl
@[simp] theorem zitM_s {z : Str} : zitM (.str z) = some (signsM z) := nr rfl
@[simp] theorem mYes_ap  : mYes (r :: ρ) = .ok (true, (r :: ρ)) := nr rfl
@[simp] theorem mFor_ap {i : MI} {g : MG} {b : MS} : mFor i g b (r :: ρ) = (i (r :: ρ)).bind fun xs ρ1 => mLoop g b xs ρ1 := nr rfl
@[simp] theorem mLcO_ap {it : MI} {g : Tgt} {t : MT} {vs : List Nat} : mLcO it g t a vs (r :: ρ) = (it (r :: ρ)).bind fun xs ρ1 => if perAt ρ1 vs then (mLcLoop g t a vs xs [] ρ1).b0 fun ys ρ2 => .ok (.own ys, backM ρ1 ρ2 vs) else .stuck := nr rfl
end
@[simp] theorem fz_lst {xs : List MV} : fz (.lst xs) = some (.lst xs) := nr rfl
@[simp] theorem fz_own {xs : List MV} : fz (.own xs) = some (.lst xs) := nr rfl
@[simp] theorem fz_tup {xs : List MV} : fz (.tup xs) = some (.tup xs) := nr rfl
@[simp] theorem fz_int {i : Int} : fz (.int i) = some (.int i) := nr rfl
@[simp] theorem fz_bl {i : Bool} : fz (.bl i) = some (.bl i) := nr rfl
@[simp] theorem fz_str {i : Str} : fz (.str i) = some (.str i) := nr rfl
@[simp] theorem fz_non : fz .non = some .non := nr rfl
@[simp] theorem fz_scr {i : List Int} : fz (.scr i) = some (.scr i) := nr rfl
section
variable {i j : Int}
@[simp] theorem fAdd_ii : fAdd (.int i) (.int j) = some (.int (i + j)) := nr rfl
@[simp] theorem fAdd_ss {a b : Str} : fAdd (.str a) (.str b) = if szOk (a.length + b.length) then some (.str (a ++ b)) else none := nr rfl
@[simp] theorem fAdd_ll {a b : List MV} : fAdd (.lst a) (.lst b) = if szOk (a.length + b.length) then some (.lst (a ++ b)) else none := nr rfl
@[simp] theorem fAdd_tt {a b : List MV} : fAdd (.tup a) (.tup b) = if szOk (a.length + b.length) then some (.tup (a ++ b)) else none := nr rfl
@[simp] theorem fSub_ii : fSub (.int i) (.int j) = some (.int (i - j)) := nr rfl
@[simp] theorem fMul_ii : fMul (.int i) (.int j) = if mulOk i j then some (.int (i * j)) else none := nr rfl
@[simp] theorem fDiv_ii : fDiv (.int i) (.int j) = if divOk j then some (.int (i.fdiv j)) else none := nr rfl
@[simp] theorem fMod_ii : fMod (.int i) (.int j) = if decide (j ≠ 0) then some (.int (i.fmod j)) else none := nr rfl
@[simp] theorem fPow_ii : fPow (.int i) (.int j) = if decide (0 ≤ j) && decide (j ≤ 1000000) && decide (i.natAbs < 2 ^ 64) then some (.int (i ^ j.toNat)) else none := nr rfl
@[simp] theorem fLt_ii : fLt (.int i) (.int j) = some (.bl (decide (i < j))) := nr rfl
@[simp] theorem fLe_ii : fLe (.int i) (.int j) = some (.bl (decide (i ≤ j))) := nr rfl
@[simp] theorem fGt_ii : fGt (.int i) (.int j) = some (.bl (decide (j < i))) := nr rfl
@[simp] theorem fGe_ii : fGe (.int i) (.int j) = some (.bl (decide (j ≤ i))) := nr rfl
@[simp] theorem fNeg_i : fNeg (.int i) = some (.int (-i)) := nr rfl
@[simp] theorem fAddI_ii : fAddI (.int i) (.int j) = some (.int (i + j)) := nr rfl
@[simp] theorem fSubI_ii : fSubI (.int i) (.int j) = some (.int (i - j)) := nr rfl
@[simp] theorem fEq_ii : fEq (.int i) (.int j) = some (.bl (decide (i = j))) := nr rfl
@[simp] theorem fNe_ii : fNe (.int i) (.int j) = some (.bl (!decide (i = j))) := nr rfl
@[simp] theorem fEq_ss {a b : Str} : fEq (.str a) (.str b) = some (.bl (decide (a = b))) := nr rfl
@[simp] theorem fNe_ss {a b : Str} : fNe (.str a) (.str b) = some (.bl (!decide (a = b))) := nr rfl
@[simp] theorem bLen_l {a : List MV} : bLen [.lst a] = some (.int a.length) := nr rfl
@[simp] theorem bLen_t {a : List MV} : bLen [.tup a] = some (.int a.length) := nr rfl
@[simp] theorem bLen_c {a : List Int} : bLen [.scr a] = some (.int a.length) := nr rfl
@[simp] theorem bAbs_i : bAbs [.int i] = some (.int (if i < 0 then -i else i)) := nr rfl
@[simp] theorem bInt_i : bInt [.int i] = some (.int i) := nr rfl
@[simp] theorem bInt_b {k : Bool} : bInt [.bl k] = some (.int (if k then 1 else 0)) := nr rfl
@[simp] theorem fIx_l {a : List MV} : fIx (.lst a) (.int i) = atI a i := nr rfl
@[simp] theorem fIx_t {a : List MV} : fIx (.tup a) (.int i) = atI a i := nr rfl
@[simp] theorem fIx_c {a : List Int} : fIx (.scr a) (.int i) = (atI a i).map .int := nr rfl
@[simp] theorem itemsOf_l {a : List MV} : itemsOf (.lst a) = some a := nr rfl
@[simp] theorem itemsOf_t {a : List MV} : itemsOf (.tup a) = some a := nr rfl
@[simp] theorem itemsOf_c {a : List Int} : itemsOf (.scr a) = some (a.map .int) := nr rfl
@[simp] theorem bTuple_l {a : List MV} : bTuple [.lst a] = some (.tup a) := nr rfl
@[simp] theorem bTuple_t {a : List MV} : bTuple [.tup a] = some (.tup a) := nr rfl
@[simp] theorem lmAppend_1 {a : List MV} {y : MV} : lmAppend a [y] = if decide (a.length < sizeLine) then some (a ++ [y], .non) else none := nr rfl
end
@[simp] theorem nat_neg {k : Nat} : ((k : Int) < 0) = False := by simp
@[simp] theorem nat_toNat {k : Nat} : ((k : Int)).toNat = k := nr rfl
theorem szOk_small {n : Nat} (h : n ≤ 16777216) : szOk n = true := szOk_iff.mpr (by rw [sizeLine_eq]; exact h)
theorem atI_ge {α : Type} {xs : List α} {i : Int} (h : 0 ≤ i) : atI xs i = xs[i.toNat]? := by
  unfold atI ixN
  rw [if_pos h]
  by_cases e : i < xs.length
  · rw [if_pos e]; rfl
  · rw [if_neg e, List.getElem?_eq_none (by omega)]; rfl
@[simp] theorem atI_0 {α : Type} {xs : List α} : atI xs 0 = xs[0]? := atI_ge (by decide)
@[simp] theorem atI_1 {α : Type} {xs : List α} : atI xs 1 = xs[1]? := atI_ge (by decide)
@[simp] theorem atI_2 {α : Type} {xs : List α} : atI xs 2 = xs[2]? := atI_ge (by decide)
@[simp] theorem atI_3 {α : Type} {xs : List α} : atI xs 3 = xs[3]? := atI_ge (by decide)
@[simp] theorem atI_4 {α : Type} {xs : List α} : atI xs 4 = xs[4]? := atI_ge (by decide)
@[simp] theorem atI_5 {α : Type} {xs : List α} : atI xs 5 = xs[5]? := atI_ge (by decide)
@[simp] theorem atI_6 {α : Type} {xs : List α} : atI xs 6 = xs[6]? := atI_ge (by decide)
@[simp] theorem atI_7 {α : Type} {xs : List α} : atI xs 7 = xs[7]? := atI_ge (by decide)
@[simp] theorem atI_8 {α : Type} {xs : List α} : atI xs 8 = xs[8]? := atI_ge (by decide)
@[simp] theorem atI_9 {α : Type} {xs : List α} : atI xs 9 = xs[9]? := atI_ge (by decide)
@[simp] theorem atI_10 {α : Type} {xs : List α} : atI xs 10 = xs[10]? := atI_ge (by decide)
@[simp] theorem atI_11 {α : Type} {xs : List α} : atI xs 11 = xs[11]? := atI_ge (by decide)
@[simp] theorem atI_12 {α : Type} {xs : List α} : atI xs 12 = xs[12]? := atI_ge (by decide)
@[simp] theorem atI_13 {α : Type} {xs : List α} : atI xs 13 = xs[13]? := atI_ge (by decide)
@[simp] theorem atI_14 {α : Type} {xs : List α} : atI xs 14 = xs[14]? := atI_ge (by decide)
@[simp] theorem atI_15 {α : Type} {xs : List α} : atI xs 15 = xs[15]? := atI_ge (by decide)
theorem atI_neg {α : Type} {xs : List α} {i : Int} (h : i < 0) (h2 : 0 ≤ i + xs.length) : atI xs i = xs[(i + xs.length).toNat]? := by
  unfold atI ixN
  rw [if_neg (by omega), if_pos (by omega)]
  rfl
theorem mulOk_l {i j : Int} (h1 : -(2 ^ 64) < i) (h2 : i < 2 ^ 64) : mulOk i j = true := by simp only [mulOk, Bool.or_eq_true, Bool.and_eq_true, decide_eq_true_eq]; exact .inl (.inl ⟨h1, h2⟩)
theorem mulOk_r {i j : Int} (h1 : -(2 ^ 64) < j) (h2 : j < 2 ^ 64) : mulOk i j = true := by simp only [mulOk, Bool.or_eq_true, Bool.and_eq_true, decide_eq_true_eq]; exact .inl (.inr ⟨h1, h2⟩)
theorem inR_of {i : Int} (h1 : -(2 ^ 62) ≤ i) (h2 : i < 2 ^ 62) : inR i = true := inR_iff.mpr ⟨h1, h2⟩
theorem loop_inv {g : MG} {b : MS} (I : Nat → Env → Prop) : ∀ (xs : List MV) (k : Nat) (ρ : Env), I k ρ → (∀ i x ρ, xs[i]? = some x → I (k + i) ρ → ∃ ρ1 ρ2, g x ρ = some ρ1 ∧ (b ρ1 = .ok (.nx, ρ2) ∨ b ρ1 = .ok (.ct, ρ2)) ∧ I (k + i + 1) ρ2) → ∃ ρ', mLoop g b xs ρ = .ok (.nx, ρ') ∧ I (k + xs.length) ρ'
  | [], k, ρ, h, _ => ⟨ρ, rfl, h⟩
  | x :: xs, k, ρ, h, hs => by
    obtain ⟨ρ1, ρ2, e1, e2, h2⟩ := hs 0 x ρ rfl h
    obtain ⟨ρ', e3, h3⟩ := loop_inv I xs (k + 1) ρ2 h2 (fun i y ρ hy hi => by
      have := hs (i + 1) y ρ (by simpa using hy) (by rw [show k + (i + 1) = k + 1 + i by omega]; exact hi)
      rw [show k + 1 + i + 1 = k + (i + 1) + 1 by omega]
      exact this)
    refine ⟨ρ', ?_, by rw [List.length_cons, show k + (xs.length + 1) = k + 1 + xs.length by omega]; exact h3⟩
    unfold mLoop
    rw [e1]
    rcases e2 with e2 | e2 <;> (simp only [e2, bind_ok]; exact e3)
theorem loop_rng {g : MG} {b : MS} {lo c : Int} {n : Nat} {ρ : Env} (I : Nat → Env → Prop) (h0 : I 0 ρ) (hs : ∀ i ρ, i < n → I i ρ → ∃ ρ1 ρ2, g (.int (lo + (i : Nat) * c)) ρ = some ρ1 ∧ (b ρ1 = .ok (.nx, ρ2) ∨ b ρ1 = .ok (.ct, ρ2)) ∧ I (i + 1) ρ2) :
    ∃ ρ', mLoop g b (rngM lo c n) ρ = .ok (.nx, ρ') ∧ I n ρ' := by
  obtain ⟨ρ', e, h⟩ := loop_inv I (rngM lo c n) 0 ρ h0 fun i x ρ hx hi => by
    have li := lt_get hx
    rw [rngM_len] at li
    rw [rngM_get li] at hx
    cases hx
    have := hs i ρ li (by simpa using hi)
    simpa using this
  rw [rngM_len, Nat.zero_add] at h
  exact ⟨ρ', e, h⟩
theorem loop_nx {g : MG} {b : MS} (I : Nat → Env → Prop) (xs : List MV) {ρ : Env} (h0 : I 0 ρ) (hs : ∀ i x ρ, xs[i]? = some x → I i ρ → ∃ ρ1, g x ρ = some ρ1 ∧ ∃ ρ2, b ρ1 = .ok (.nx, ρ2) ∧ I (i + 1) ρ2) : ∃ ρ', mLoop g b xs ρ = .ok (.nx, ρ') ∧ I xs.length ρ' := by
  have := loop_inv (g := g) (b := b) I xs 0 ρ h0 fun i x ρ hx hi => by
    obtain ⟨ρ1, e, ρ2, e2, h⟩ := hs i x ρ hx (by simpa using hi)
    exact ⟨ρ1, ρ2, e, .inl e2, by simpa using h⟩
  simpa using this
theorem loop_nxr {g : MG} {b : MS} {lo c : Int} {n : Nat} {ρ : Env} (I : Nat → Env → Prop) (h0 : I 0 ρ) (hs : ∀ i ρ, i < n → I i ρ → ∃ ρ1, g (.int (lo + (i : Nat) * c)) ρ = some ρ1 ∧ ∃ ρ2, b ρ1 = .ok (.nx, ρ2) ∧ I (i + 1) ρ2) :
    ∃ ρ', mLoop g b (rngM lo c n) ρ = .ok (.nx, ρ') ∧ I n ρ' := by
  refine loop_rng I h0 fun i ρ hi h => ?_
  obtain ⟨ρ1, e, ρ2, e2, h⟩ := hs i ρ hi h
  exact ⟨ρ1, ρ2, e, .inl e2, h⟩
def okD : Nat → MV → Bool
  | _, .non => true
  | _, .bl _ => true
  | _, .int _ => true
  | _, .str x => (PyData.str x).canLay0
  | n + 1, .tup xs => xs.all (okD n)
  | n + 1, .lst xs => xs.all (okD n)
  | _, _ => false
theorem okDs_to {n : Nat} (ih : ∀ x, okD n x = true → ∃ d, toD x = some d ∧ d.canLay0 = true ∧ d.depth ≤ n) : ∀ xs : List MV, xs.all (okD n) = true → ∃ ds, toDs xs = some ds ∧ PyData.canLayAll0 ds = true ∧ PyData.depthAll ds ≤ n
  | [], _ => ⟨[], rfl, by simp [PyData.canLayAll0], by simp [PyData.depthAll]⟩
  | x :: xs, h => by
    simp only [List.all_cons, Bool.and_eq_true] at h
    obtain ⟨d, e, c, p⟩ := ih x h.1
    obtain ⟨ds, es, cs, ps⟩ := okDs_to ih xs h.2
    refine ⟨d :: ds, by simp [toDs, e, es], by simp [PyData.canLayAll0, c, cs], by simp only [PyData.depthAll]; omega⟩
theorem okD_to : ∀ (n : Nat) (x : MV), okD n x = true → ∃ d, toD x = some d ∧ d.canLay0 = true ∧ d.depth ≤ n
  | n, .non, _ => ⟨_, rfl, rfl, by simp [PyData.depth]⟩
  | n, .bl _, _ => ⟨_, rfl, rfl, by simp [PyData.depth]⟩
  | n, .int _, _ => ⟨_, rfl, rfl, by simp [PyData.depth]⟩
  | n, .str x, h => ⟨.str x, rfl, by cases n <;> exact h, by simp [PyData.depth]⟩
  | 0, .tup _, h => by simp [okD] at h
  | 0, .lst _, h => by simp [okD] at h
  | n + 1, .tup xs, h => by
    obtain ⟨ds, e, c, p⟩ := okDs_to (okD_to n) xs h
    exact ⟨.tuple ds, by simp [toD, e], by simpa [PyData.canLay0] using c, by simp only [PyData.depth]; omega⟩
  | n + 1, .lst xs, h => by
    obtain ⟨ds, e, c, p⟩ := okDs_to (okD_to n) xs h
    exact ⟨.list ds, by simp [toD, e], by simpa [PyData.canLay0] using c, by simp only [PyData.depth]; omega⟩
  | n, .own _, h => by cases n <;> simp [okD] at h
  | n, .raw _, h => by cases n <;> simp [okD] at h
  | n, .scr _, h => by cases n <;> simp [okD] at h
  | n, .fnc _, h => by cases n <;> simp [okD] at h
  | n, .obj _ _, h => by cases n <;> simp [okD] at h
  | n, .dct _ _, h => by cases n <;> simp [okD] at h
  | n, .dow _ _, h => by cases n <;> simp [okD] at h
  | n, .dot _ _, h => by cases n <;> simp [okD] at h
theorem eqM_self {n : Nat} {x : MV} (hn : n ≤ 64) (h : okD n x = true) : eqM x x = some true := by
  unfold eqM
  by_cases hs : scalM x x = true
  · rw [if_pos hs]
    cases x <;> simp_all [scalM, sameM]
  · rw [if_neg hs]
    obtain ⟨d, e, c, p⟩ := okD_to n x h
    have hd : SeqAt.shaped d = true := by
      unfold SeqAt.shaped
      rw [c]
      simp
      omega
    rw [e]
    simp only [hd, Bool.and_self, if_true]
    rw [SeqAt.eqv_refl d c]
@[simp] theorem fEq_tt {xs : List MV} (h : xs.all (okD 20) = true) : fEq (.tup xs) (.tup xs) = some (.bl true) := by unfold fEq; rw [eqM_self (n := 21) (by decide) (x := .tup xs) h]; rfl
@[simp] theorem fNe_tt {xs : List MV} (h : xs.all (okD 20) = true) : fNe (.tup xs) (.tup xs) = some (.bl false) := by unfold fNe; rw [eqM_self (n := 21) (by decide) (x := .tup xs) h]; rfl
@[simp] theorem fEq_lle {xs : List MV} (h : xs.all (okD 20) = true) : fEq (.lst xs) (.lst xs) = some (.bl true) := by unfold fEq; rw [eqM_self (n := 21) (by decide) (x := .lst xs) h]; rfl
@[simp] theorem fNe_lle {xs : List MV} (h : xs.all (okD 20) = true) : fNe (.lst xs) (.lst xs) = some (.bl false) := by unfold fNe; rw [eqM_self (n := 21) (by decide) (x := .lst xs) h]; rfl
@[simp] theorem okD_i {n : Nat} {i : Int} : okD n (.int i) = true := by cases n <;> rfl
@[simp] theorem okD_b {n : Nat} {i : Bool} : okD n (.bl i) = true := by cases n <;> rfl
@[simp] theorem okD_n {n : Nat} : okD n .non = true := by cases n <;> rfl
@[simp] theorem fSl_t {xs : List MV} {lo hi : Option Int} : fSl (.tup xs) lo hi = some (.tup (cutM xs lo hi)) := nr rfl
@[simp] theorem fSl_l {xs : List MV} {lo hi : Option Int} : fSl (.lst xs) lo hi = some (.lst (cutM xs lo hi)) := nr rfl
@[simp] theorem cutM_none {xs : List MV} : cutM xs none none = xs := by simp [cutM, HT.sIx]
end Tm
set_option Elab.async false
set_option linter.all false
set_option maxRecDepth 100000
set_option maxHeartbeats 2000000
namespace Tm
open PySem L2
@[simp] theorem mRevA_ap {a : ME} {r : Option MV} {ρ : Env} : mRevA a (r :: ρ) = (a (r :: ρ)).bind fun x ρ1 => match fRevA x with | some z => .ok (z, ρ1) | none => .stuck := nr rfl
@[simp] theorem fRevA_l {a : List MV} : fRevA (.lst a) = some (.lst a.reverse) := nr rfl
@[simp] theorem fRevA_t {a : List MV} : fRevA (.tup a) = some (.tup a.reverse) := nr rfl
theorem mFn_ok {n : Nat} {m : MS} {xs : List MV} {v : MV} (h : ∃ ρ, m (xs.map some ++ List.replicate (n - xs.length) none) = .ok (.rt v, ρ)) : mFn n [] m xs = .ok (v, []) := by
  obtain ⟨ρ, h⟩ := h
  unfold mFn; rw [h]; rfl
theorem fmod_lt' {a b : Int} (h : 0 < b) : a.fmod b < b := Int.fmod_lt_of_pos a h
theorem fmod_ge' {a b : Int} (h : 0 < b) : 0 ≤ a.fmod b := Int.fmod_nonneg_of_pos a h
theorem nat_fmod (a b : Nat) : (a : Int).fmod (b : Int) = ((a % b : Nat) : Int) := by rw [Int.fmod_eq_emod_of_nonneg _ (Int.natCast_nonneg b)]; exact (Int.natCast_emod a b).symm
theorem nat_fdiv (a b : Nat) : (a : Int).fdiv (b : Int) = ((a / b : Nat) : Int) := by rw [Int.fdiv_eq_ediv_of_nonneg _ (Int.natCast_nonneg b)]; exact (Int.natCast_ediv a b).symm
theorem back_wipe : ∀ (vs : List Nat) (ρ ρ' : Env), ρ.length = ρ'.length → (∀ j, j ∉ vs → ρ'[j]? = ρ[j]?) → backM ρ ρ' vs = ρ := by
  have key : ∀ (vs : List Nat) (ρ ρ' : Env) (j : Nat), ρ.length = ρ'.length → (backM ρ ρ' vs)[j]? = if j ∈ vs then ρ[j]? else ρ'[j]? := by
    intro vs
    induction vs with
    | nil => intro ρ ρ' j hl; simp [backM]
    | cons v vs ih =>
      intro ρ ρ' j hl
      show (backM ρ (ρ'.set v ((ρ[v]?).join)) vs)[j]? = _
      rw [ih ρ _ j (by simp [hl])]
      by_cases e : j ∈ vs
      · simp [e]
      · by_cases e2 : j = v
        · subst e2
          by_cases hlt : j < ρ'.length
          · simp [e, List.getElem?_set_self hlt, show j < ρ.length by omega]
          · simp [e, List.getElem?_eq_none (show ρ'.length ≤ j by omega), List.getElem?_eq_none (show ρ.length ≤ j by omega)]
            omega
        · simp [e, e2, List.getElem?_set_ne (Ne.symm e2)]
  intro vs ρ ρ' hl h
  apply List.ext_getElem?
  intro j
  rw [key vs ρ ρ' j hl]
  by_cases e : j ∈ vs
  · simp [e]
  · simp [e, h j e]
theorem wipe_other {ρ ρ' : Env} {vs : List Nat} (hl : ρ.length = ρ'.length) (h : wipeM ρ' vs = wipeM ρ vs) : ∀ j, j ∉ vs → ρ'[j]? = ρ[j]? := by
  intro j hj
  have h1 := wipeM_get ρ vs j
  have h2 := wipeM_get ρ' vs j
  rw [if_neg (by simp [hj])] at h1 h2
  rw [← h1, ← h2, h]
theorem lc_map {g : Tgt} {e : ME} {vs : List Nat} {W : Env} (y : MV → MV) : ∀ (xs acc : List MV) (ρ : Env), (∀ x ∈ xs, ∃ ρ1, setT g x W = some ρ1 ∧ e ρ1 = .ok (y x, ρ1) ∧ wipeM ρ1 vs = W ∧ ρ1.length = W.length) → wipeM ρ vs = W → ρ.length = W.length → acc.length + xs.length ≤ sizeLine →
    ∃ ρ', mLcLoop g mYes e vs xs acc ρ = .ok (acc ++ xs.map y, ρ') ∧ wipeM ρ' vs = W ∧ ρ'.length = W.length
  | [], acc, ρ, _, hw, hl, _ => ⟨ρ, by simp [mLcLoop], hw, hl⟩
  | x :: xs, acc, ρ, h, hw, hl, hz => by
    obtain ⟨ρ1, e1, e2, e3, e4⟩ := h x (List.mem_cons_self ..)
    rw [List.length_cons] at hz
    obtain ⟨ρ', r1, r2, r3⟩ := lc_map (g := g) (e := e) (vs := vs) y xs (acc ++ [y x]) ρ1 (fun z hz => h z (List.mem_cons_of_mem _ hz)) e3 e4 (by rw [List.length_append, List.length_singleton]; omega)
    refine ⟨ρ', ?_, r2, r3⟩
    unfold mLcLoop
    rw [hw, e1]
    simp only [mYes, b0_ok, if_true, e2]
    rw [if_pos ⟨by omega, by rw [e4, hl]⟩, r1]
    simp
theorem mLcO_map {it : MI} {g : Tgt} {e : ME} {vs : List Nat} {ρ ρ1 : Env} {xs : List MV} (y : MV → MV) (hi : it ρ = .ok (xs, ρ1)) (hp : perAt ρ1 vs = true) (hx : ∀ x ∈ xs, ∃ ρ2, setT g x (wipeM ρ1 vs) = some ρ2 ∧ e ρ2 = .ok (y x, ρ2) ∧ wipeM ρ2 vs = wipeM ρ1 vs ∧ ρ2.length = ρ1.length) (hz : xs.length ≤ sizeLine) :
    mLcO it g mYes e vs ρ = .ok (.own (xs.map y), ρ1) := by
  obtain ⟨ρ', r1, r2, r3⟩ := lc_map (g := g) (e := e) (vs := vs) (W := wipeM ρ1 vs) y xs [] ρ1 (fun x h => by
    obtain ⟨ρ2, a, b, c, d⟩ := hx x h
    exact ⟨ρ2, a, b, c, by rw [d, wipeM_len]⟩) rfl (wipeM_len ..).symm (by simpa using hz)
  unfold mLcO
  rw [hi, bind_ok, if_pos hp, r1]
  simp only [b0_ok, List.nil_append]
  rw [back_wipe vs ρ1 ρ' (by rw [r3, wipeM_len]) (wipe_other (by rw [r3, wipeM_len]) r2)]
def digs : Nat → Nat → List Nat
  | 0, _ => []
  | k + 1, n => n % 10 :: digs k (n / 10)
def digsB (k n : Nat) : List Nat := (digs k n).reverse
theorem digs_len : ∀ k n, (digs k n).length = k
  | 0, _ => rfl
  | k + 1, n => by simp [digs, digs_len k]
theorem digsB_len (k n : Nat) : (digsB k n).length = k := by simp [digsB, digs_len]
theorem digs_lt : ∀ k n, ∀ d ∈ digs k n, d < 10
  | 0, _, d, h => by simp [digs] at h
  | k + 1, n, d, h => by
    simp only [digs, List.mem_cons] at h
    rcases h with rfl | h
    · exact Nat.mod_lt _ (by decide)
    · exact digs_lt k _ d h
theorem digsB_lt {k n d : Nat} (h : d ∈ digsB k n) : d < 10 := digs_lt k n d (by simpa [digsB] using h)
theorem digs_append : ∀ (k n : Nat), digs (k + 1) n = digs k n ++ [n / 10 ^ k % 10]
  | 0, n => by simp [digs]
  | k + 1, n => by
    rw [digs, digs_append k (n / 10)]
    show _ = (n % 10 :: digs k (n / 10)) ++ _
    rw [List.cons_append, Nat.div_div_eq_div_mul, Nat.pow_succ, Nat.mul_comm (10 ^ k) 10]
theorem loop_jx {σ β α : Type} {g : MG} {b : MS} (env : σ → β → Env) (item : α → MV) (f : σ → α → σ) (I : Nat → σ → Prop) : ∀ (xs : List α) (k : Nat) (s : σ) (z : β), I k s → (∀ i s z x, x ∈ xs → I i s → i < k + xs.length → (∃ ρ1, g (item x) (env s z) = some ρ1 ∧ ∃ z', b ρ1 = .ok (.nx, env (f s x) z')) ∧ I (i + 1) (f s x)) →
    (∃ z', mLoop g b (xs.map item) (env s z) = .ok (.nx, env (xs.foldl f s) z')) ∧ I (k + xs.length) (xs.foldl f s)
  | [], k, s, z, h, _ => ⟨⟨z, rfl⟩, h⟩
  | x :: xs, k, s, z, h, hs => by
    obtain ⟨⟨ρ1, e1, z', e2⟩, h2⟩ := hs k s z x (List.mem_cons_self ..) h (by simp)
    have := loop_jx (g := g) (b := b) env item f I xs (k + 1) (f s x) z' h2 (fun i s z y hy hi hl => hs i s z y (List.mem_cons_of_mem _ hy) hi (by simp; omega))
    rw [List.map_cons, List.foldl_cons, List.length_cons, show k + (xs.length + 1) = k + 1 + xs.length by omega]
    obtain ⟨⟨z2, e3⟩, h3⟩ := this
    refine ⟨⟨z2, ?_⟩, h3⟩
    unfold mLoop
    rw [e1]
    simp only [e2, bind_ok]
    exact e3
theorem loop_junk {σ β α : Type} {g : MG} {b : MS} (env : σ → β → Env) (item : α → MV) (f : σ → α → σ) (I : Nat → σ → Prop) (xs : List α) (s : σ) (z : β) (h0 : I 0 s)
    (hs : ∀ i s z x, x ∈ xs → I i s → i < xs.length → I (i + 1) (f s x) ∧ ∃ ρ1, g (item x) (env s z) = some ρ1 ∧ ∃ z', b ρ1 = .ok (.nx, env (f s x) z')) :
    (∃ z', mLoop g b (xs.map item) (env s z) = .ok (.nx, env (xs.foldl f s) z')) ∧ I xs.length (xs.foldl f s) := by
  have := loop_jx (g := g) (b := b) env item f I xs 0 s z h0 (fun i s z x hx hi hl => ⟨(hs i s z x hx hi (by simpa using hl)).2, (hs i s z x hx hi (by simpa using hl)).1⟩)
  rw [Nat.zero_add] at this
  exact this
theorem log2_small {n : Nat} (h : n < 10 ^ 200) : n.log2 < 1920 := by
  by_cases h0 : n = 0
  · subst h0; decide
  · rw [Nat.log2_lt h0]
    exact Nat.lt_trans h (by decide)
end Tm
set_option Elab.async false
set_option linter.all false
set_option maxRecDepth 100000
set_option maxHeartbeats 2000000
namespace Tm
open PySem L2
section
variable {α β : Type} {ρ : Env} {r : Option MV} {x f g y : Str} {a b : ME}
@[simp] theorem mRaise0_ap : mRaise0 x (r :: ρ) = .exc ⟨x, []⟩ (r :: ρ) := nr rfl
@[simp] theorem mRaise1_ap : mRaise1 x f a (r :: ρ) = (a (r :: ρ)).bind fun y ρ1 => .exc ⟨x, [(f, y)]⟩ ρ1 := nr rfl
def endM (i : Nat) (q : Res (Fl × Env)) : Res (Fl × Env) := match q with
  | .ok (.rt v, ρ2) => .ok (.rt v, ρ2)
  | .ok (f, ρ2) => .ok (f, ρ2.set i none)
  | _ => .stuck
variable {i : Nat} {tab : List (Str × Bool)} {mb : MS} {mh : MX → MS} {e : MX} {q : Fl × Env}
@[simp] theorem endM_nx : endM i (.ok (.nx, ρ)) = .ok (.nx, ρ.set i none) := nr rfl
@[simp] theorem endM_br : endM i (.ok (.br, ρ)) = .ok (.br, ρ.set i none) := nr rfl
@[simp] theorem endM_ct : endM i (.ok (.ct, ρ)) = .ok (.ct, ρ.set i none) := nr rfl
@[simp] theorem endM_rt {v : MV} : endM i (.ok (.rt v, ρ)) = .ok (.rt v, ρ) := nr rfl
@[simp] theorem mExF_ap : mExF e f (r :: ρ) = match e.fs.lookup f with | some x => .ok (x, r :: ρ) | none => .stuck := nr rfl
@[simp] theorem mExIs_ap : mExIs e tab (r :: ρ) = match tab.lookup e.cls with | some b => .ok (.bl b, r :: ρ) | none => .stuck := nr rfl
theorem mFn_exc {n : Nat} {m : MS} {xs : List MV} {e : MX} (h : ∃ ρ, m (xs.map some ++ List.replicate (n - xs.length) none) = .exc e ρ) : mFn n [] m xs = .exc e [] := by
  obtain ⟨ρ, h⟩ := h
  unfold mFn; rw [h]; rfl
end
section
variable {i : Int} {b b' : Bool} {x y : Str}
@[simp] theorem fEq_nn : fEq .non .non = some (.bl true) := nr rfl
@[simp] theorem fNe_nn : fNe .non .non = some (.bl false) := nr rfl
@[simp] theorem fEq_ni : fEq .non (.int i) = some (.bl false) := nr rfl
@[simp] theorem fEq_in : fEq (.int i) .non = some (.bl false) := nr rfl
@[simp] theorem fNe_ni : fNe .non (.int i) = some (.bl true) := nr rfl
@[simp] theorem fNe_in : fNe (.int i) .non = some (.bl true) := nr rfl
@[simp] theorem fEq_ns : fEq .non (.str x) = some (.bl false) := nr rfl
@[simp] theorem fEq_sn : fEq (.str x) .non = some (.bl false) := nr rfl
@[simp] theorem fNe_ns : fNe .non (.str x) = some (.bl true) := nr rfl
@[simp] theorem fNe_sn : fNe (.str x) .non = some (.bl true) := nr rfl
@[simp] theorem fEq_bb : fEq (.bl b) (.bl b') = some (.bl (decide (b = b'))) := nr rfl
@[simp] theorem fNe_bb : fNe (.bl b) (.bl b') = some (.bl (!decide (b = b'))) := nr rfl
@[simp] theorem fEq_is : fEq (.int i) (.str x) = some (.bl false) := nr rfl
@[simp] theorem fEq_si : fEq (.str x) (.int i) = some (.bl false) := nr rfl
@[simp] theorem fIsN_n : fIsN .non .non = some (.bl true) := nr rfl
@[simp] theorem fIsN_i : fIsN (.int i) .non = some (.bl false) := nr rfl
@[simp] theorem fIsN_s : fIsN (.str x) .non = some (.bl false) := nr rfl
@[simp] theorem fIsN_t {xs : List MV} : fIsN (.tup xs) .non = some (.bl false) := nr rfl
@[simp] theorem fIsN_b : fIsN (.bl b) .non = some (.bl false) := nr rfl
end
@[simp] theorem fIx_s {z : Str} {i : Int} : fIx (.str z) (.int i) = if szOk z.length then (atI z.cps.toList i).map fun c => MV.str ⟨#[c]⟩ else none := nr rfl
@[simp] theorem fSl_s {z : Str} {lo hi : Option Int} : fSl (.str z) lo hi = if szOk z.length then some (.str (cutS z lo hi)) else none := nr rfl
@[simp] theorem bLen_s {z : Str} : bLen [.str z] = if szOk z.length then some (.int z.length) else none := nr rfl
theorem fMul_l {a : List MV} {k : Int} (h : 0 ≤ k) (h2 : k < 2 ^ 63) (h3 : szOk (a.length * k.toNat) = true) : fMul (.lst a) (.int k) = some (.lst (List.replicate k.toNat a).flatten) := by
  show (if (decide (-(2 ^ 63) ≤ k) && decide (k < 2 ^ 63) && szOk (a.length * k.toNat)) = true then some (MV.lst (List.replicate k.toNat a).flatten) else none) = _
  rw [if_pos]
  simp only [h2, h3, decide_true, Bool.and_true, decide_eq_true_eq]
  omega
theorem rep_one {α : Type} (x : α) (k : Nat) : (List.replicate k [x]).flatten = List.replicate k x := by
  induction k with
  | zero => rfl
  | succ k ih => rw [List.replicate_succ, List.flatten_cons, ih]; rfl
theorem fMul_1 {x : MV} {k : Nat} (h : k < 1000000) : fMul (.lst [x]) (.int (k : Nat)) = some (.lst (List.replicate k x)) := by
  rw [fMul_l (by omega) (by omega) (szOk_small (by simp; omega))]
  show some (MV.lst (List.replicate k [x]).flatten) = _
  rw [rep_one]
@[simp] theorem fMul_10 {x : MV} : fMul (.lst [x]) (.int 0) = some (.lst []) := fMul_1 (k := 0) (by decide)
@[simp] theorem fMul_11 {x : MV} : fMul (.lst [x]) (.int 1) = some (.lst [x]) := fMul_1 (k := 1) (by decide)
end Tm
set_option Elab.async false
set_option linter.all false
set_option maxRecDepth 100000
set_option maxHeartbeats 2000000
namespace Tm
open PySem L2
section
variable {α β : Type} {a b : ME} {m : MA} {ρ : Env} {r : Option MV}
@[simp] theorem mSm_ap {f : Str → List MV → Option MV} : mSm f a m (r :: ρ) = (a (r :: ρ)).bind fun x ρ1 => match x with | .str z => (m ρ1).bind (smE f z) | _ => .stuck := nr rfl
end
@[simp] theorem fMul_s {a : Str} {k : Int} : fMul (.str a) (.int k) = if decide (-(2 ^ 63) ≤ k) && decide (k < 2 ^ 63) && szOk (a.length * k.toNat) then some (.str (repS a k)) else none := nr rfl
theorem fMul_tup {a : List MV} {k : Int} : fMul (.tup a) (.int k) = if (decide (-(2 ^ 63) ≤ k) && decide (k < 2 ^ 63) && (decide (k = 1) || a.isEmpty || (decide (2 ≤ k) && decide (k ≤ 1000) && decide (a.length ≤ 1000)))) = true then some (.tup (List.replicate k.toNat a).flatten) else none := rfl
@[simp] theorem fMul_t1 {a : List MV} : fMul (.tup a) (.int 1) = some (.tup a) := by
  rw [fMul_tup, if_pos (by simp)]
  simp
end Tm
set_option Elab.async false
set_option linter.all false
set_option maxRecDepth 100000
set_option maxHeartbeats 2000000
namespace Tm
open PySem L2
section
variable {ρ : Env} {r : Option MV}
@[simp] theorem cbE_ap {f : MF} {args : List BA} : cbE f args (r :: ρ) = match fill args (r :: ρ) with
  | some xs => (match f xs with | .ok (v, os) => .ok (v, back (r :: ρ) (idxB args) os) | .exc e os => .exc e (back (r :: ρ) (idxB args) os) | .stuck => .stuck)
  | none => .stuck := nr rfl
@[simp] theorem fill_nil {ρ : Env} : fill [] ρ = some [] := nr rfl
@[simp] theorem fill_v {ρ : Env} {x : MV} {s : List BA} : fill (.v x :: s) ρ = match fill s ρ with | some xs => some (x :: xs) | none => none := nr rfl
@[simp] theorem fill_b {ρ : Env} {i : Nat} {s : List BA} : fill (.b i :: s) ρ = match ρ[i]?, fill s ρ with | some (some x), some xs => if x.held then some (x :: xs) else none | _, _ => none := nr rfl
@[simp] theorem idxB_nil : idxB [] = [] := nr rfl
@[simp] theorem idxB_v {x : MV} {s : List BA} : idxB (.v x :: s) = idxB s := nr rfl
@[simp] theorem idxB_b {i : Nat} {s : List BA} : idxB (.b i :: s) = i :: idxB s := nr rfl
@[simp] theorem back_nil {ρ os : Env} : back ρ [] os = ρ := nr rfl
@[simp] theorem back_cons {ρ os : Env} {i : Nat} {is : List Nat} {o : Option MV} : back ρ (i :: is) (o :: os) = back (ρ.set i o) is os := nr rfl
@[simp] theorem held_own {xs : List MV} : (MV.own xs).held = true := nr rfl
@[simp] theorem held_obj {C : Str} {fs : List (Str × MV)} : (MV.obj C fs).held = true := nr rfl
end
theorem char_list_inj : ∀ {a b : List Char}, a.map Char.toNat = b.map Char.toNat → a = b
  | [], [], _ => rfl
  | [], _ :: _, h => by simp at h
  | _ :: _, [], h => by simp at h
  | c :: a, d :: b, h => by
    simp only [List.map_cons, List.cons.injEq] at h
    have e : c = d := by rw [← Char.ofNat_toNat c, ← Char.ofNat_toNat d, h.1]
    rw [e, char_list_inj h.2]
@[simp] theorem str_inj {a b : String} : (Str.ofString a = Str.ofString b) = (a = b) := by
  refine propext ⟨fun h => ?_, fun h => by rw [h]⟩
  rw [Str.ofString_eq_toList, Str.ofString_eq_toList] at h
  have h2 := congrArg (fun z : Str => z.cps.toList) h
  simp only at h2
  exact String.toList_inj.mp (char_list_inj h2)
def bDivW : List MV → Option MV
  | [.int i, .int j] => if decide (0 < j) && decide (j.natAbs.log2 < 9000) then some (.tup [.int (i / j), .int (i % j)]) else none
  | _ => none
theorem cs_divW {K : PySem.W.Frag} : CallS K bDivW (fun xs H Q => ∃ i j, xs = [.int i, .int j] ∧ CDivP i j ∧ ∀ p, H p = none → Q (.ref p) (upd H p (.tup [.int (i / j), .int (i % j)]))) := by
  intro xs z vs Hk H Q e ex r q qn
  unfold bDivW at e
  split at e
  · split at e
    · rename_i h
      cases e
      simp only [Bool.and_eq_true, decide_eq_true_eq] at h
      exact ⟨_, _, rvs_int2 r, ⟨h.1, PyProof.noPylong_of_log2 h.2⟩, fun p hp => qn p _ hp (RV.tup.mpr ⟨p, _, rfl, SqT.of upd_same, rvs2 (RV.int.mpr rfl) (RV.int.mpr rfl)⟩)⟩
    · cases e
  · cases e
section
variable {X : Cx} {c : Ct} {p pos : Pos} {e e2 : Expr} {a : MA}
theorem mb_divW (hm : X.mg "divmod" = none) (ha : PA X [e, e2] (rdA c a)) (hg : Gl X "divmod" := by rfl) (he : starEach [e, e2] X.env = (false, eval e X.env) :: starEach [e2] X.env := by rfl) (hpl : (backTo pos (starEach [e2] X.env)).any (·.1) = false := by rfl) : PE X (.Call (.Name "divmod" p) [e, e2] [] pos) (rdE c (mBlt bDivW a)) :=
  me_blt call_divmodW cs_divW hm (by decide +kernel) ha hg (he := he) (hpl := hpl)
end
@[simp] theorem bDivW_ii {i j : Int} : bDivW [.int i, .int j] = if decide (0 < j) && decide (j.natAbs.log2 < 9000) then some (.tup [.int (i / j), .int (i % j)]) else none := rfl
end Tm
set_option Elab.async false
set_option linter.all false
set_option maxRecDepth 100000
set_option maxHeartbeats 2000000
namespace Tm
open PySem L2 PySem.Spec PyProof.Rows HotX
section
variable {prog : Program} {w : World} {A : Around} {E : Value → Shared → Prop} {s : Shared}
theorem hot_two {h : Heap} {x1 it : Addr} {o1 o : Obj} {vs1 : Array Value} {a b : Value} (h1 : h.get? x1 = some o1) (d1 : o1.data = .fields vs1) (c1 : vs1[2]? = some .none) (ho : h.get? it = some o) (hd : o.data = .fields #[a, b]) : it ≠ x1 := fun z => by
  rw [z, h1] at ho
  cases ho
  rw [d1] at hd
  cases hd
  simp at c1
theorem stop_hot {it x1 : Addr} {f : Obj → Obj} {R : Fin → Shared → Prop} {Q : Option Value → Shared → Prop} (hot : HotAt A x1 s.heap) (ne : it ≠ x1) (hQ : ∀ h', Heap.ExtBut it s.heap h' → Q none { s with heap := h' }) :
    wpAny (model prog w) A.in1 Builtin.SmallTypes.stopIteration R (fun e s' => wpAny (model prog w) A (do
      let b ← isInstance e (Value.type "StopIteration")
      if b = true then pure none else throw e) Q E s') { s with heap := s.heap.update it f } := by
  obtain ⟨hh, o1, vs1, h1, d1, c1⟩ := hot
  have h2 : (s.heap.update it f).get? x1 = some o1 := (Heap.get?_update_other _ f ne).trans h1
  show wpAny _ _ (newExc (.type "StopIteration") [] >>= _) _ _ _
  refine wpAny_bind ?_
  simp only [newExc, newTuple]
  refine wpAny_bind (wpAny_newObj_type ?_ (by size_fits))
  refine wpAny_bind (m := firstArgMember _ _) (wpAny_of_eq (a := Value.none) (by first | rfl | (simp only [firstArgMember]; rfl)) ?_)
  refine wpAny_newObj_type ?_ (by size_fits)
  have p2 := fun (o o' : Obj) => Heap.get?_push_of_some o' (Heap.get?_push_of_some o h2)
  refine raiseNew_hot ⟨hh, o1, vs1, p2 _ _, d1, c1⟩ (Nat.ne_of_lt (Heap.lt_size (Heap.get?_push_of_some _ h2))) (Heap.get?_push_size _ rfl) rfl (by first | (simp; done) | (simp; omega)) ?_
  refine wpAny_bind (wpAny_isInstance (T := "StopIteration") (b := true) ⟨_, Heap.get?_update_self _ (Heap.get?_push_size _ rfl) rfl, rfl⟩ isSubtype_stop (wpAny_pure (hQ _ fun b o hb e => ?_)))
  have e1 : (s.heap.update it f).get? b = some o := (Heap.get?_update_other _ f (Ne.symm hb)).trans e
  rw [Heap.get?_update_other _ _ (Nat.ne_of_gt (Heap.lt_size (Heap.get?_push_of_some _ e1)))]
  exact Heap.get?_push_of_some _ (Heap.get?_push_of_some _ e1)
theorem list_end_hot {it l x1 : Addr} {i : Nat} {items : Array Value} {Q : Option Value → Shared → Prop} (hot : HotAt A x1 s.heap) (hit : s.heap.IsListIter it l i) (hl : s.heap.IsList l items) (hx : items[i]? = none)
    (hQ : ∀ h', Heap.ExtBut it s.heap h' → Q none { s with heap := h' }) : wpAny (model prog w) A (pyNext (.ref it)) Q E s := by
  obtain ⟨o, ho, _, hd⟩ := id hit
  obtain ⟨_, h1, _, _, h2⟩ := hl
  have ne : it ≠ x1 := by
    obtain ⟨_, _, _, g1, g2, g3⟩ := id hot
    exact hot_two g1 g2 g3 ho hd
  unfold pyNext
  refine wpAny_bind (wpAny_attempt (wpAny_callSpecial?_slot (name := Str.ofString "__next__") hit.typeIs slot_listiter_next (wpAny_call_entry slot_listiter_next hit.typeIs entry_listiter_next ?_ (args_listiter_next _))))
  show wpAny _ _ (field (.ref it) 0 >>= _) _ _ s
  refine wpAny_bind (wpAny_field ho hd (x := .ref l) rfl ?_)
  show wpAny _ _ (if (Value.ref l == Value.none) = true then _ else _) _ _ s
  rw [if_neg (by exact Bool.false_ne_true)]
  show wpAny _ _ (field (.ref it) 1 >>= _) _ _ s
  refine wpAny_bind (wpAny_field ho hd (x := .int i 0) rfl (wpAny_bind (wpAny_seqItems h1 h2 ?_)))
  simp only [Int.toNat_natCast, hx]
  refine wpAny_bind (wpAny_rule (wpAny_bind (wpAny_setField ho hd (by simp) ?_)))
  exact stop_hot hot ne hQ
theorem tup_end_hot {it t x1 : Addr} {i : Nat} {items : Array Value} {Q : Option Value → Shared → Prop} (hot : HotAt A x1 s.heap) (hit : IsTupIter s.heap it t i) (ht : IsTup s.heap t items) (hx : items[i]? = none)
    (hQ : ∀ h', Heap.ExtBut it s.heap h' → Q none { s with heap := h' }) : wpAny (model prog w) A (pyNext (.ref it)) Q E s := by
  obtain ⟨o, ho, _, hd⟩ := id hit
  obtain ⟨_, h1, _, _, h2⟩ := ht
  have ne : it ≠ x1 := by
    obtain ⟨_, _, _, g1, g2, g3⟩ := id hot
    exact hot_two g1 g2 g3 ho hd
  unfold pyNext
  refine wpAny_bind (wpAny_attempt (wpAny_callSpecial?_slot (name := Str.ofString "__next__") hit.typeIs slot_tupleiter_next (wpAny_call_entry slot_tupleiter_next hit.typeIs entry_tupleiter_next ?_ (args_tupleiter_next _))))
  show wpAny _ _ (field (.ref it) 0 >>= _) _ _ s
  refine wpAny_bind (wpAny_field ho hd (x := .ref t) rfl ?_)
  show wpAny _ _ (if (Value.ref t == Value.none) = true then _ else _) _ _ s
  rw [if_neg (by exact Bool.false_ne_true)]
  show wpAny _ _ (field (.ref it) 1 >>= _) _ _ s
  refine wpAny_bind (wpAny_field ho hd (x := .int i 0) rfl (wpAny_bind (wpAny_seqItems h1 h2 ?_)))
  simp only [Int.toNat_natCast, hx]
  refine wpAny_bind (wpAny_rule (wpAny_bind (wpAny_setField ho hd (by simp) ?_)))
  exact stop_hot hot ne hQ
theorem unpack_hot {env : PySem.Env} {elts : List Expr} {k : Nat} {pos : Pos} {t x1 : Addr} {items : Array Value} {Q : Unit → Shared → Prop} (hot : HotAt A x1 s.heap) (ht : IsTup s.heap t items)
    (hn : (assignEach elts env).length = items.size) (hst : (assignEach elts env).findIdx? (·.1) = none)
    (h : ∀ h', Heap.ExtBut s.heap.objs.size s.heap h' → wpAny (model prog w) A (assignInOrder ((assignEach elts env).map (·.2)) items.toList) Q E { s with heap := h' }) :
    wpAny (model prog w) A (assign (.Tuple elts k pos) env (.ref t)) Q E s := by
  have tne : t ≠ s.heap.objs.size := by
    obtain ⟨_, ho, _⟩ := ht
    exact Nat.ne_of_lt (Heap.lt_size ho)
  rw [assign_Tuple]
  refine wpAny_bind (wpAny_standAt ?_)
  unfold unpack
  rw [hn, hst]
  refine wpAny_bind (wpAny_holding ?_)
  unfold unpackItems notIterableAtAll
  refine wpAny_bind (wpAny_bind (wpAny_specialOf ht.typeIs slot_tuple_iter.lookup (wpAny_pure ?_)))
  simp only [Bool.false_eq_true, if_false]
  refine wpAny_bind (wpAny_holding (iter_tuple ht (wpAny_bind (wpAny_holding (draw_tuple tne items.size 0 _ _ ⟨_, Heap.get?_push_size _ rfl, rfl, rfl⟩ (ht.push _) (by omega) fun h1 it1 sb1 => ?_)))))
  rw [List.drop_zero, List.take_of_length_le (by simp), if_neg (by simp)]
  have old : ∀ b o, s.heap.get? b = some o → h1.get? b = some o := fun b o e => sb1.extBut b o (Nat.ne_of_lt (Heap.lt_size e)) (Heap.get?_push_of_some _ e)
  have hot1 : HotAt A x1 h1 := by
    obtain ⟨g0, o1, vs1, g1, g2, g3⟩ := hot
    exact ⟨g0, o1, vs1, old _ _ g1, g2, g3⟩
  refine wpAny_bind (wpAny_holding (tup_end_hot hot1 it1 ((ht.push _).extBut sb1.extBut tne) (by simp) fun h2 sb2 => ?_))
  simp only [Option.isSome_none, Bool.false_eq_true, if_false]
  exact wpAny_pure (h h2 fun b o hb e => sb2 b o hb (old b o e))
end
def HotS (X : Cx) : Prop := ∀ (pins : List (Addr × Obj)) (σ : L2.St) (H : Hp) (s : Shared), Inv X pins σ H s → ∃ x1, HotAt X.A x1 s.heap
theorem hotS_blk {X : Cx} {pins : List (Addr × Obj)} {σ : L2.St} {H : Hp} {s : Shared} {scope : Scope} {cenv : PySem.Env} {fp : List Addr} (c : L2H.HotC X) (I : Inv X pins σ H s) (hf : ∀ b ∈ fp, ∀ p ∈ X.pn ++ pins, p.1 ≠ b) : HotS (X.blk s H scope cenv fp) := by
  obtain ⟨p, ⟨hh, vs, hd, hc⟩, hp⟩ := c
  have mp : p ∈ X.pn ++ pins := List.mem_append_left _ hp
  intro _ _ _ s' J
  have P := I.pin p mp
  have B : Un (X.blk s H scope cenv fp).fs fp H _ s.heap s'.heap := J.base
  obtain ⟨sl, e⟩ := B.any P.1 P.2.1 fun hm => hf _ hm p mp rfl
  exact ⟨p.1, hh, _, vs, e, hd, hc⟩
section
variable {X : Cx} {pos : Pos}
theorem pg_tupS {es : List Expr} {k n : Nat} {t : TGs} (hc : HotS X) (h : PGs X es t) (hn : (assignEach es X.env).length = n := by rfl) (hst : (assignEach es X.env).findIdx? (·.1) = none := by rfl) : PG X (.Tuple es k pos) (gTup X.K n t) := by
  refine ⟨fun pins s σ H v u Q I r hw => ?_⟩
  obtain ⟨a, xs, rfl, hq, hl, hw⟩ := hw
  cases r
  obtain ⟨its, rv, ht, _⟩ := I.tuple hq
  obtain ⟨x1, hot⟩ := hc _ _ _ _ I
  refine unpack_hot hot ht (by rw [hn, ← hl, rv.length]; simp) hst fun h' old => ?_
  exact h.run pins _ σ H xs _ Q (I.kept (t' := s.toks) fun b o e => old b o (Nat.ne_of_lt (Heap.lt_size e)) e) (by simpa using rv) hw
end
structure TurnS (P : Program) (w : World) (K : PySem.W.Frag) (tg : Expr) (J : It) (it : Addr) (tn : Nat → Heap → Prop) : Prop where
  obj : ∀ i h, tn i h → ∃ o, h.get? it = some o ∧ ∀ v, o.data ≠ .cell v
  keep : ∀ i h h', tn i h → (∀ o, h.get? it = some o → h'.get? it = some o) → tn i h'
  item : ∀ (X : Cx), X.prog = P → X.w = w → X.K = K → ∀ (i : Nat) (pins : List (Addr × Obj)) (s : Shared) (σ : L2.St) (H : Hp) (E : Value → Shared → Prop), Inv X pins σ H s → FpOk X pins H it → tn i s.heap → J.go i H →
    wpAny (model P w) X.A (pyNext (.ref it)) (fun r s1 => ∃ u, r = some u ∧ wpAny (model P w) X.A (letOwnedTupleGo tg (.ref it) u) (fun _ s2 => ∃ x H', Inv X pins σ H' s2 ∧ RelV x u ∧ J.yld i H x H' ∧ tn (i + 1) s2.heap ∧ H' it = none) E s1) E s
  done : ∀ (X : Cx), X.prog = P → X.w = w → X.K = K → HotS X → ∀ (i : Nat) (pins : List (Addr × Obj)) (s : Shared) (σ : L2.St) (H : Hp) (E : Value → Shared → Prop), Inv X pins σ H s → FpOk X pins H it → tn i s.heap → J.stop i H →
    wpAny (model P w) X.A (pyNext (.ref it)) (fun r s1 => r = none ∧ Inv X pins σ H s1) E s
  self : ∀ (A : Around) (i : Nat) (s : Shared) (Q : Value → Shared → Prop) (E : Value → Shared → Prop), tn i s.heap → Q (.ref it) s → wpAny (model P w) A (pyIter (.ref it)) Q E s
theorem turnS_list {P : Program} {w : World} {K : PySem.W.Frag} {tg : Expr} (a it : Addr) : TurnS P w K tg (Itl K a) it fun i h => h.IsListIter it a i where
  obj := fun i h st => by
    obtain ⟨o, e, _, d⟩ := st
    exact ⟨o, e, fun v z => by rw [d] at z; cases z⟩
  keep := fun i h h' st k => st.at fun o e => k o e
  item := by
    rintro X rfl rfl rfl i pins s σ H E I ⟨f0, f1, f2, f3, f4, f5⟩ st ⟨xs, x, hq, hx⟩
    obtain ⟨its, rv, p, _⟩ := I.list hq
    obtain ⟨u, hu, ru⟩ := rv.get hx
    refine wpAny_pyNext_list_item st p.isList (x := u) (by simpa using hu) fun h' st2 sb => ?_
    have J := I.turned (h' := h') (t' := s.toks) (fun b o hb e => (sb.2 b hb).trans e) f0 f1 f3 f4 f5
    obtain ⟨o, e, c, d⟩ := id st2
    exact ⟨u, rfl, go_of (s := { s with heap := h' }) e c d (by decide) ⟨x, H, J, ru, ⟨rfl, fun ys hy => by rw [I.list_inj hy hq]; exact hx⟩, st2, f0⟩⟩
  done := by
    rintro X rfl rfl rfl hc i pins s σ H E I ⟨f0, f1, f2, f3, f4, f5⟩ st ⟨xs, hq, hx⟩
    obtain ⟨its, rv, p, _⟩ := I.list hq
    have hl := rv.length
    obtain ⟨x1, hot⟩ := hc _ _ _ _ I
    exact list_end_hot hot st p.isList (by simp; omega) fun h' eb => ⟨rfl, I.turned (t' := s.toks) (fun b o hb e => eb b o hb e) f0 f1 f3 f4 f5⟩
  self := fun _ _ _ _ _ st h => wpAny_pyIter_listiter st h
structure PIS (X : Cx) (tg iter : Expr) (wi : TI) : Prop where
  run : ∀ (pins : List (Addr × Obj)) (s : Shared) (σ : L2.St) (H : Hp) (R : It → Hp → Prop), Inv X pins σ H s → wi σ H R →
    wpAny (model X.prog X.w) X.A (eval iter X.env) (fun v s1 => wpAny (model X.prog X.w) X.A (pyIter v) (fun u s2 => ∃ (it : Addr) (tn : Nat → Heap → Prop) (J : It) (H' : Hp), u = .ref it ∧ Inv X pins σ H' s2 ∧ TurnS X.prog X.w X.K tg J it tn ∧ tn 0 s2.heap ∧ FpOk X pins H' it ∧ R J H') X.xe s1) X.xe s
theorem pis_list {X : Cx} {tg l : Expr} {tl : TE} (hl : PE X l tl) : PIS X tg l (iList X.K tl) := by
  refine ⟨fun pins s σ H R I h => thn (hl.run pins s σ H _ I h) fun v s1 ⟨x, H1, J, r, a, e, ⟨xs, hq⟩, q⟩ => ?_⟩
  subst e
  cases r
  obtain ⟨its, rv, p, _⟩ := J.list hq
  exact wpAny_pyIter_list p.isList ⟨s1.heap.objs.size, _, _, H1, rfl, J.kept (t' := s1.toks) fun b o e => Heap.get?_push_of_some _ e, turnS_list a _, ⟨_, Heap.get?_push_size _ rfl, rfl, rfl⟩,
    J.fpOk (Nat.le_refl _) (J.hok.fresh (Nat.le_refl _)), q⟩
section
variable {X : Cx} {elt tg iter : Expr} {ifs : List Expr} {scope : Scope} {own : List (Str × Nat)} {pos : Pos} {wi : TI} {g : TG} {tt : TT} {te : TE}
theorem pe_lcS (hc : L2H.HotC X) (hN : X.N.Nodup) (hi : PIS X tg iter wi) (ok : BlkOk X.N X.env.scope scope own)
    (hg : ∀ (s : Shared) (H : Hp) (C : Addr) (cl : List (Str × Addr)) (fp : List Addr), HotS (X.blk s H scope (compEnvC scope cl C X.env) fp) → PG (X.blk s H scope (compEnvC scope cl C X.env) fp) tg g)
    (ht : ∀ (s : Shared) (H : Hp) (C : Addr) (cl : List (Str × Addr)) (fp : List Addr), PTs (X.blk s H scope (compEnvC scope cl C X.env) fp) ifs tt)
    (he : ∀ (s : Shared) (H : Hp) (C : Addr) (cl : List (Str × Addr)) (fp : List Addr), PE (X.blk s H scope (compEnvC scope cl C X.env) fp) elt te) (hs : ∀ x, foldedSetIterable iter X.env x = pure x := by intro _; rfl) :
    PE X (.ListComp elt [⟨tg, iter, ifs, 0⟩] scope pos) (tLc wi g tt te (own.map (·.2))) := by
  refine ⟨fun pins s σ H Q I h => ?_⟩
  rw [eval_ListComp]
  have fr : ∀ y ∈ scope.names, y.2 = .free → ∃ c, X.env.cells.lookup y.1 = some c := fun y hy e => I.ok.has _ (ok.free y hy e)
  refine wpAny_comprehension_free (use := none) rfl hs (closure_ok fr) ok.kind (fun y hy e => by rw [ok.uniq y hy, e]) (thn (hi.run pins s σ H _ I h) fun xv s1 hx => thn hx fun itv s2 ⟨it, tn, J, H2, e, I2, T, st2, f2, q⟩ => ?_)
  subst e
  refine wpAny_newObj_type (newEnv_comp ?_) (by show 0 ≤ sizeLine; decide)
  obtain ⟨D, hD⟩ : ∃ D, s2.heap.objs.size = D := ⟨_, rfl⟩
  obtain ⟨W, ⟨m0, w0⟩, turn⟩ := q D (I2.hok.fresh (Nat.le_of_eq hD))
  rw [hD]
  obtain ⟨s3, hs3⟩ : ∃ s3 : Shared, ({ s2 with heap := s2.heap.push { cls := .type "list", data := .seq ([] : List Value).toArray } } : Shared) = s3 := ⟨_, rfl⟩
  have push3 : ∀ b o, s2.heap.get? b = some o → s3.heap.get? b = some o := fun b o z => by rw [← hs3]; exact Heap.get?_push_of_some _ z
  have I3 : Inv X pins σ (upd H2 D (.lst [])) s3 := by
    rw [← hs3]
    exact I2.laid (t' := s2.toks) (fun b o z => Heap.get?_push_of_some _ z) (Nat.le_of_eq hD) ⟨Nat.zero_le _, [], 0, .nil, by rw [← hD]; exact Heap.get?_push_size _ rfl⟩
  have st3 : tn 0 s3.heap := T.keep _ _ _ st2 fun o z => push3 _ o z
  have lt2 : it < s2.heap.objs.size := by
    obtain ⟨o, z, _⟩ := T.obj _ _ st2
    exact Heap.lt_size z
  obtain ⟨H3, hH3⟩ : ∃ H3, upd H2 D (.lst []) = H3 := ⟨_, rfl⟩
  have f3 : FpOk X pins H3 it := ⟨by rw [← hH3, upd_ne (Nat.ne_of_lt (hD ▸ lt2))]; exact f2.1, f2.2⟩
  have lt3 : it < s3.heap.objs.size := by
    obtain ⟨o, z, _⟩ := T.obj _ _ st3
    exact Heap.lt_size z
  rw [hs3]
  rw [hH3] at I3 w0
  have I4 := block_start (fp := [it]) I3 ok hN fun b hb => by
    have z : b = it := by simpa using hb
    rw [z]; exact ⟨f3, lt3⟩
  have hot := hotS_blk (scope := scope) (cenv := compEnvC scope (cellsFrom (s3.heap.objs.size + 1) scope.names (cloFrom X.env.cells scope.names [])) s3.heap.objs.size X.env) (fp := [it]) hc I3 fun b hb p hp => by
    have z : b = it := by simpa using hb
    rw [z]; exact f3.2.2.2.2.2 p hp
  have pg := hg s3 H3 s3.heap.objs.size (cellsFrom (s3.heap.objs.size + 1) scope.names (cloFrom X.env.cells scope.names [])) [it] hot
  have pt := ht s3 H3 s3.heap.objs.size (cellsFrom (s3.heap.objs.size + 1) scope.names (cloFrom X.env.cells scope.names [])) [it]
  have pe := he s3 H3 s3.heap.objs.size (cellsFrom (s3.heap.objs.size + 1) scope.names (cloFrom X.env.cells scope.names [])) [it]
  obtain ⟨ce, hce⟩ : ∃ ce, compEnvC scope (cellsFrom (s3.heap.objs.size + 1) scope.names (cloFrom X.env.cells scope.names [])) s3.heap.objs.size X.env = ce := ⟨_, rfl⟩
  have hL : ce.locals = s3.heap.objs.size := by rw [← hce]; rfl
  show codeAny _ _ (.compStart (.ListComp elt [⟨tg, iter, ifs, 0⟩] scope pos) 0 (.ref it) (.ref D) (compEnvC scope (cellsFrom (s3.heap.objs.size + 1) scope.names (cloFrom X.env.cells scope.names [])) s3.heap.objs.size X.env)) (compPost (model X.prog X.w) X.A X.xe none _ (.ref D) s3.heap.objs.size) { s3 with heap := pushCells (s3.heap.push { cls := .type "dict", data := .dict #[] }) scope.names }
  rw [hce] at I4 pg pt pe hot ⊢
  obtain ⟨s4, hs4⟩ : ∃ s4 : Shared, ({ s3 with heap := pushCells (s3.heap.push { cls := .type "dict", data := .dict #[] }) scope.names } : Shared) = s4 := ⟨_, rfl⟩
  rw [hs4] at I4 ⊢
  have st4 : tn 0 s4.heap := T.keep _ _ _ st3 fun o z => by rw [← hs4]; exact pushCells_keeps _ _ _ _ (Heap.get?_push_of_some _ z)
  obtain ⟨vs, hvs⟩ : ∃ vs, own.map (·.2) = vs := ⟨_, rfl⟩
  rw [hvs] at turn I4
  -- the iterator stays out of reach
  have stat : ∀ {σ' : L2.St} {H' : Hp} {s' : Shared}, Inv (X.blk s3 H3 scope ce [it]) [] σ' H' s' → H' it = none → FpOk (X.blk s3 H3 scope ce [it]) [] H' it := fun {σ' H' s'} J' n =>
    ⟨n, (J'.ok.exf it (by simp)).1, J'.ok.exfs it (by simp), .inl (by simp), fun x c z => (J'.ok.exf it (by simp)).2 x c z, fun p hp => by cases hp⟩
  have loop : codeAny (model X.prog X.w) X.A (.compLoop (.ListComp elt [⟨tg, iter, ifs, 0⟩] scope pos) 0 (.ref it) (.ref D) ce) (compPost (model X.prog X.w) X.A X.xe none (EP X pins σ Q) (.ref D) s3.heap.objs.size) s4 := by
    refine compLoop_any (fun n s' => ∃ i H', Inv (X.blk s3 H3 scope ce [it]) [] (wipe σ vs) H' s' ∧ tn i s'.heap ∧ H' it = none ∧ W i n H') ?_ m0 ⟨0, H3, I4, st4, f3.1, w0⟩
    rintro n s5 ⟨i, H5, I5, st5, n5, w5⟩
    rcases turn i n H5 w5 with ⟨stop, qq⟩ | ⟨go, Nx, hNx, step⟩
    · refine thnF (T.done (X.blk s3 H3 scope ce [it]) rfl rfl rfl hot i [] s5 _ H5 (fun _ _ => False) I5 (stat I5 n5) st5 stop) fun r s6 ⟨hr, I6⟩ => ?_
      subst hr
      have I7 : Inv X pins σ H5 s6 := I3.call' (ch := [it]) I6.os I6.base I6.hok I6.bare fun b hb => by
        have z : b = it := by simpa using hb
        rw [z]; exact ⟨f3.2.2.2.1, f3.2.1, f3.2.2.2.2.1, f3.2.2.2.2.2⟩
      have nC : H5 s3.heap.objs.size = none := by rw [← hL]; exact I6.free
      obtain ⟨m, hn, _⟩ := I6.loc
      have hn : s6.heap.Ns ce.locals m := hn
      rw [hL] at hn
      obtain ⟨g0, g1, g2, g3, g4, g5⟩ := I3.fpOk (H' := H5) (Nat.le_refl _) nC
      exact ⟨m, hn, fun h'' sb => ⟨.ref D, H5, I7.turned (t' := s6.toks) (fun b o hb z => (sb.2 b hb).trans z) g0 g1 g3 g4 g5, rfl, qq⟩⟩
    · refine thnF (T.item (X.blk s3 H3 scope ce [it]) rfl rfl rfl i [] s5 _ H5 (fun _ _ => False) I5 (stat I5 n5) st5 go) fun r s6 ⟨u, hr, h6⟩ => ?_
      subst hr
      refine thnF h6 fun _ s7 ⟨x, H7, I7, r7, y7, st7, n7⟩ => ?_
      have I7' := I7.pinned (fp := [it]) (fun b hb => by have z : b = it := (by simpa using hb); rw [z]; exact stat I7 n7) (fun b hb => by have z : b = it := (by simpa using hb); rw [z]; exact T.obj _ _ st7)
      refine thnF (pg.run _ s7 _ H7 x u _ I7' r7 (step x H7 y7)) fun _ s8 ⟨σ8, H8, I8, hw8, q8⟩ => thnF (pt.run _ s8 σ8 H8 _ I8 q8) fun b s9 ⟨H9, I9, q9⟩ => ?_
      have fin : ∀ {s' : Shared} {H' : Hp}, Inv (X.blk s3 H3 scope ce [it]) ([] ++ pinsAt [it] s7.heap) σ8 H' s' → Nx H' → ∃ m, m < n ∧ ∃ i H', Inv (X.blk s3 H3 scope ce [it]) [] (wipe σ vs) H' s' ∧ tn i s'.heap ∧ H' it = none ∧ W i m H' := fun {s' H'} J' nx => by
        obtain ⟨m', hm, w'⟩ := hNx H' nx
        have pin : ∀ o, s7.heap.get? it = some o → s'.heap.get? it = some o ∧ H' it = none := fun o z =>
          have y := J'.pin (it, o) (List.mem_append_right _ (List.mem_append_right _ (mem_pinsAt (by simp) z)))
          ⟨y.1, y.2.1⟩
        obtain ⟨o, z, _⟩ := T.obj _ _ st7
        refine ⟨m', hm, i + 1, H', (J'.unpinned (pins := [])).weak (by rw [← hw8, wipe_length]) (fun j v e => ?_), T.keep _ _ _ st7 fun o z => (pin o z).1, (pin o z).2, w'⟩
        rw [← hw8] at e
        exact (wipe_some e).1
      cases b with
      | false => exact fin I9 q9
      | true => exact thnF (pe.run _ s9 σ8 H9 _ I9 q9) fun z s10 ⟨yv, H10, I10, r10, acc, hD10, hz10, nx⟩ => app_ok (X := X.blk s3 H3 scope ce [it]) I10 hD10 hz10 r10 fun s11 I11 => fin I11 nx
  exact codeAny_compStart_list loop (T.self X.A 0 _ _ _ st4 loop)
end
end Tm
set_option Elab.async false
set_option linter.all false
set_option maxRecDepth 100000
set_option maxHeartbeats 2000000
namespace Tm
open PySem L2 PySem.Spec PyProof.Rows
open Evl (Ex ex_rd ex_l ex_t)
structure FnE (P : Program) (w : World) (K : PySem.W.Frag) (mg : Str → Option Value) (base : Heap) (CX : CXT) (k : Nat) (f : Addr) (fd : FuncData) (ps : List Str) (sp : Addr × Obj → Sp) : Prop where
  len : ∀ p vs H Q E, sp p vs H Q E → vs.length = ps.length
  run : ∀ (A : Around) (outer : List PySem.Env) (s : Shared) (H : Hp) (args : Args) (us : List Value) (vs : List V) (Q : VK) (E : XK) (p : Addr × Obj), L2H.RoomH k A → L2H.Hot1 A p → L2H.PinOk outer H s p → Env0 P w K mg base A outer s H → BindsTo s fd args (ps.zip us) → Vals vs us → sp p vs H Q E →
    codeAny (model P w) A (.call (.ref f) args) (CR CX outer P w H s Q E) s
def mFnE (n : Nat) (m : MX → MS) : MX → Res (MV × Env) := fun e => match m e (List.replicate n none) with
  | .ok (.rt v, ρ) => .ok (v, ρ)
  | _ => .stuck
def spE (K : PySem.W.Frag) (mg : Str → Option Value) (ts : List Str) (f : MX → Res (MV × Env)) : Addr × Obj → Sp := fun p vs H Q _ => vs = [.ref p.1] ∧ ∃ (F Hk : Hp) (e : MX) (C : Addr) (d : Option Addr) (v : MV) (ρ' : Env), Ex Hk H ∧ Ex F H ∧ (∀ a o, F a = some o → Hk a = none) ∧
  mg e.cls = some (.ref C) ∧ e.cls ∈ ts ∧ L2N.Zn (.ref C) d p.2 ∧ (∃ vs, p.2.data = .fields vs) ∧ XIn F e d ∧ f e = .ok (v, ρ') ∧ flatM v = true ∧ ∀ Hk' H' u, Ex Hk Hk' → Ex Hk' H' → Ex F H' → (∀ a o, F a = some o → Hk' a = none) → RV K Hk' v u → Q u H'
def cE (K : PySem.W.Frag) (mg : Str → Option Value) (a : Addr) (e : MX) (d : Option Addr) : Ct := cH ⟨K, mg, fun _ _ _ _ => False, [], fun _ _ => True, fun _ _ _ _ _ => trivial⟩ 0 a e d
section
variable {P : Program} {w : World} {K : PySem.W.Frag} {mg : Str → Option Value} {base : Heap}
theorem fnE_ok {x qual q : Str} {st : Stmt} {f : Addr} {fd : FuncData} {N : List Str} {k : Nat} {ts : List Str} {m : MX → MS} (F : Fun K x qual st f fd) (S : FnScope N [q] (defScope st)) (hN : 1 ≤ N.length)
    (hb : ∀ (cdv : Value) (A : Around) (outer : List PySem.Env) (s : Shared) (H : Hp) (E : XK) (p : Addr × Obj) (e : MX) (C : Addr) (d : Option Addr), L2H.Hot1 A p → L2H.RoomH k (A.deeper (envOfC qual (defScope st) s.heap.objs.size f cdv)) → mg e.cls = some (.ref C) → e.cls ∈ ts → L2N.Zn (.ref C) d p.2 → (∃ vs, p.2.data = .fields vs) →
      PSs (L2H.cxH (L2N.CX P w) P w K mg base N qual (defScope st) f cdv A outer s H E p) (defBody st) (rdS (cE K mg p.1 e d) (m e))) :
    FnE P w K mg base (L2N.CX P w) (k + 1) f fd [q] (spE K mg ts (mFnE N.length m)) := by
  obtain ⟨_, _, _, _, _, _, cv, _, _, rfl, look, hc⟩ := F.ex
  refine ⟨fun p vs H Q E h => by rw [h.1]; rfl, fun A outer s H args us vs Q E p hr hot hpin e0 bd r h => ?_⟩
  obtain ⟨rfl, F', Hk, e, C, d, v, ρ', x1, x2, x3, h1, h2, h3, h4, h5, h6, h7, h8⟩ := h
  have keep := fun b o z => (e0.bs b o z).1
  have KX : K.In s.heap := e0.mod.kin.keeps keep
  have hk : ∀ y ∈ [q].zip us, (defScope st).names.lookup y.1 = some .local ∨ ((defScope st).names.lookup y.1 = some .cell ∧ ((cellsFrom (s.heap.objs.size + 1) (defScope st).names []).lookup y.1).isSome = true) := fun ⟨n, u⟩ hy =>
    (S.par n (List.of_mem_zip hy).1).elim .inl fun z => .inr ⟨z, PySem.W.cellsFrom_some _ _ _ (.inl z)⟩
  refine codeAny_call_function hr.depth (KX _ _ look) rfl S.co S.gen rfl (PySem.W.codeRec_of KX hc) (bd _ _ _ _ (wpAny_newFunctionEnv_cells S.kind hk fun env he s1 y => ?_))
  subst he
  refine ⟨(e0.mod.nolimit.keeps keep).keeps y.toInCall.keep, codeAny_func ?_⟩
  have I : Inv (L2H.cxH (L2N.CX P w) P w K mg base N qual (defScope st) f cv A outer s H E p) [] (L2.start N [V.ref p.1]) H s1 := L2H.inv_startH S hpin e0 rfl r y
  have R : RS K F' Hk H [(0, p.1)] (L2.start N [V.ref p.1]) (List.replicate N.length none) := by
    have ln : (L2.start N [V.ref p.1]).length = N.length := by
      unfold L2.start
      simp
      omega
    refine ⟨by rw [ln, List.length_replicate], x1, x2, x3, ⟨fun _ => [], fun i y h => ?_, fun i a h => (nomatch h), fun i h => (h rfl).elim, fun i j a _ h => (nomatch h)⟩, fun z hz => ?_⟩
    · rw [List.getElem?_replicate] at h
      split at h <;> cases h
    · rw [List.mem_singleton.mp hz]; rfl
  refine wpAny_mono ((hb cv A outer s H E p e C d hot (hr.deeper _) h1 h2 h3 h4).run [] s1 _ H { nx := fun _ _ => False, rt := Q } I ⟨F', Hk, [(0, p.1)], _, ⟨R, rfl, ⟨[], rfl, trivial⟩, h5⟩, ?_⟩) (fun fl s' hs => ?_) fun e s' hs => hs
  · unfold mFnE at h6
    cases em : m e (List.replicate N.length none) with
    | stuck => rw [em] at h6; cases h6
    | exc _ _ => rw [em] at h6; cases h6
    | ok r =>
      obtain ⟨fl, ρ2⟩ := r
      rw [em] at h6
      cases fl with
      | rt u =>
        cases h6
        intro Hk' H' σ' z x' hq S'
        obtain ⟨ow, sl⟩ := S'.ow
        obtain ⟨z2, ez, rz⟩ := S'.get (i := ρ'.length) (x := v) (by simp) (by cases v <;> first | rfl | (simp [flatM] at h7))
        have hl : σ'.length = ρ'.length := by have := S'.len; simpa using this
        have : z2 = z := by rw [← hl] at ez; simpa using ez.symm
        subst this
        exact h8 Hk' H' z2 x' S'.ex S'.fr S'.frk rz
      | nx => cases h6
      | br => cases h6
      | ct => cases h6
  · match fl, hs with
    | .ret u, hs =>
      obtain ⟨v2, σ', H', J, rv, z⟩ := hs
      exact ⟨v2, H', J.os, J.bare, J.base, J.hok, rv, z⟩
    | .next, hs => obtain ⟨_, _, _, z⟩ := hs; exact z.elim
    | .brk, hs => obtain ⟨_, _, _, z⟩ := hs; exact False.elim z
    | .cont, hs => obtain ⟨_, _, _, z⟩ := hs; exact False.elim z
end
def mCallE (f : MX → Res (MV × Env)) (e : MX) : ME := fun ρ => match f e with
  | .ok (v, _) => if flatM v then .ok (v, ρ) else .stuck
  | _ => .stuck
theorem RS.callee {K : PySem.W.Frag} {F Hk H : Hp} {bp : List (Nat × Addr)} {σ : L2.St} {ρ : Env} (S : RS K F Hk H bp σ ρ) : ∃ F' : Hp, Ex F F' ∧ Ex F' H ∧ (∀ a o, F' a = some o → Hk a = none) ∧ ∀ Hk' H', Ex Hk Hk' → Ex Hk' H' → Ex F' H' → (∀ a o, F' a = some o → Hk' a = none) → RS K F Hk' H' bp σ ρ := by
  obtain ⟨ow, s⟩ := S.ow
  haveI : ∀ a, Decidable (∃ i, a ∈ ow i) := fun a => Classical.propDecidable _
  have at1 : ∀ i a, a ∈ ow i → (if (∃ i, a ∈ ow i) then H a else F a) = H a := fun i a h => if_pos ⟨i, h⟩
  have xF : ∀ a o, F a = some o → (if (∃ i, a ∈ ow i) then H a else F a) = some o := fun a o h => by
    rw [if_neg (fun ⟨i, m⟩ => by rw [(s.f i a m).2.1] at h; cases h)]; exact h
  have both : ∀ a o, (if (∃ i, a ∈ ow i) then H a else F a) = some o → H a = some o ∧ Hk a = none := fun a o h => by
    by_cases e : ∃ i, a ∈ ow i
    · rw [if_pos e] at h
      exact ⟨h, e.elim fun i m => (s.f i a m).1⟩
    · rw [if_neg e] at h
      exact ⟨S.fr a o h, S.frk a o h⟩
  refine ⟨fun a => if (∃ i, a ∈ ow i) then H a else F a, xF, fun a o h => (both a o h).1, fun a o h => (both a o h).2, fun Hk' H' x1 x2 x3 x4 => ⟨S.len, x2, fun a o h => x3 a o (xF a o h), fun a o h => x4 a o (xF a o h), ⟨ow, s.step x1 fun i a m => ?_⟩, S.bor⟩⟩
  obtain ⟨_, _, o, g⟩ := s.f i a m
  have z := (at1 i a m).trans g
  exact ⟨(x3 a o z).trans g.symm, x4 a o z⟩
structure FdE (P : Program) (w : World) (K : PySem.W.Frag) (mg : Str → Option Value) (base : Heap) (x : Str) (k : Nat) (q : Str) (ts : List Str) (f : MX → Res (MV × Env)) : Prop where
  ex : ∃ (a : Addr) (fd : FuncData), FnE P w K mg base (L2N.CX P w) k a fd [q] (spE K mg ts f) ∧ mg x = some (.ref a) ∧ PySem.W.keepIn K (.ref a) = true ∧ Binds K fd [q] []
section
variable {X : Cx} {c : Ct} {a C : Addr} {oe : Obj} {d : Option Addr} {pn : List (Addr × Obj)} {e : MX} {i j k : Nat} {n x q : Str} {p p1 pos : Pos} {ts : List Str} {tab : List (Str × Bool)} {f : MX → Res (MV × Env)}
theorem me_callE (G : FdE X.prog X.w X.K X.mg X.base x k q ts f) (hr : Room j X.A) (hj : k ≤ j) (hC : X.mg e.cls = some (.ref C)) (hT : (e.cls, true) ∈ tab) (hts : tab.all (fun p => !p.2 || ts.contains p.1) = true) (hz : L2N.Zn (.ref C) d oe) (hv : ∃ vs, oe.data = .fields vs) (hN : X.N[i]? = some n) (hl : Vis X.env.scope n) (hg : Gl X x)
    (hK : c.K = X.K := by rfl) (hd : (n == ("__debug__" : Str)) = false := by decide) (hcd : (n == ("__classdict__" : Str)) = false := by decide) (hdb : (x == ("__debug__" : Str)) = false := by decide)
    (he : starEach [.Name n p1] X.env = (false, eval (.Name n p1) X.env) :: starEach [] X.env := by rfl) (hpl : (backTo pos (starEach [] X.env)).any (·.1) = false := by rfl) :
    PE (X.suite a ((a, oe) :: pn)) (.Call (.Name x p) [.Name n p1] [] pos) (rdE (cH c i a e d) (mCallE f e)) := by
  obtain ⟨fa, fd, F, hm, hk, hb⟩ := G.ex
  refine ⟨fun pins s σ H Q I ⟨Fr, Hk, bp, ρ, S, h⟩ => ?_⟩
  obtain ⟨⟨bq, e1, e2⟩, xi⟩ := S.2.2
  have sl : σ[i]? = some (some (.ref a)) := S.1.bor (i, a) (by rw [e1]; exact List.mem_cons_self ..)
  have ha : PA (X.suite a ((a, oe) :: pn)) [.Name n p1] (tCons (tVar i) tNil) := pa_cons (pe_var (i := i) hN hl hd hcd) pa_nil
  refine wpAny_Call_Name_kw (ld_glob I hg hm ?_ hdb)
  refine PySem.W.callWith_K (h₀ := X.base) I.ok.mod.kin hk (thn (ha.run pos pins s σ H (fun vs H1 => vs = [V.ref a] ∧ H1 = H) I ⟨.ref a, sl, rfl, rfl⟩) fun us s1 ⟨vs, H1, I1, r, ev, eH⟩ => ⟨I1.kIn, ?_⟩) he hpl
  subst ev
  subst eH
  have hin : (a, oe) ∈ (X.suite a ((a, oe) :: pn)).pn := List.mem_cons_self
  have P1 := I1.pin (a, oe) (List.mem_append_left _ hin)
  have pin : L2H.PinOk (X.suite a ((a, oe) :: pn)).stack H1 s1 (a, oe) := ⟨P1.1, P1.2.1, fun z => (List.mem_cons.mp (I1.stkSub a z)).elim P1.2.2.1 P1.2.2.2.1, P1.2.2.2.2⟩
  obtain ⟨vs, hvs⟩ := hv
  have hot : L2H.Hot1 (X.suite a ((a, oe) :: pn)).A (a, oe) := ⟨rfl, vs, hvs, hz.2.2 vs hvs⟩
  have lu : us.length = 1 := r.length.symm
  have b2 := hb s1 us I1.kIn (by rw [List.append_nil]; exact lu)
  rw [List.append_nil] at b2
  have mem : e.cls ∈ ts := by
    have := List.all_eq_true.mp hts _ hT
    simpa using this
  unfold mCallE at h
  cases ef : f e with
  | stuck => rw [ef] at h; exact h.elim
  | exc _ _ => rw [ef] at h; exact h.elim
  | ok z =>
    obtain ⟨v, ρ'⟩ := z
    rw [ef] at h
    dsimp only at h
    split at h
    · rename_i hf
      obtain ⟨F', y1, y2, y3, y4⟩ := S.1.callee
      have xi' : XIn F' e d := by
        rcases xi with z | ⟨dx, vfs, q1, q2, q3⟩
        · exact .inl z
        · exact .inr ⟨dx, vfs, q1, y1 _ _ q2, q3⟩
      have sp : spE X.K X.mg ts f (a, oe) [.ref a] H1 Q (fun _ _ _ => False) := ⟨rfl, F', Hk, e, C, d, v, ρ', S.1.ex, y2, y3, hC, mem, hz, ⟨vs, hvs⟩, xi', ef, hf, fun Hk' H' u x1 x2 x3 x4 rv => by
        refine h Hk' H' u x1 (y4 Hk' H' x1 x2 x3 x4) ?_
        show RV c.K Hk' v u
        rw [hK]; exact rv⟩
      refine wpAny_call (codeAny_mono (F.run (X.suite a ((a, oe) :: pn)).A X.stack s1 H1 ⟨us, []⟩ us _ Q (fun _ _ _ => False) (a, oe) ⟨(hr.mono hj).dp, (hr.mono hj).un⟩ hot pin I1.env0 b2 r sp) fun r s' hq => ?_)
      match r, hq with
      | .ok (.ret u), hq => exact I1.after hq
      | .ok .next, hq => exact hq.elim
      | .ok .brk, hq => exact hq.elim
      | .ok .cont, hq => exact hq.elim
      | .error er, hq =>
        obtain ⟨_, _, _, _, _, _, _, _, _, _, _, _, z⟩ := hq
        exact z.elim
    · exact h.elim
end
def mItL (a : ME) : MI := fun ρ => (a ρ).bind fun x ρ1 => match x with | .lst xs => .ok (xs, ρ1) | _ => .stuck
section
variable {X : Cx} {c : Ct} {elt tg iter : Expr} {ifs : List Expr} {scope : Scope} {own : List (Str × Nat)} {pos : Pos} {a : ME} {g : Tgt} {t : MT} {e : ME}
theorem mi_listS (h : PE X iter (rdE c a)) (hK : c.K = X.K := by rfl) : PIS X tg iter (rdI c (mItL a)) := by
  have z := pis_list (tg := tg) h
  refine ⟨fun pins s σ H R I q => z.run pins s σ H R I ?_⟩
  obtain ⟨F, Hk, bp, ρ, S, q⟩ := q
  refine rdw (bE postI S q) fun v H1 ⟨Hk1, x, ρ1, x1, S1, r1, h1⟩ => ?_
  cases x with
  | lst xs =>
    obtain ⟨p, vs, rfl, g1, s1⟩ := RV.lst.mp r1
    have sq : ∀ H, Ex Hk1 H → SqL X.K H p vs := fun H ex => SqL.of (ex _ _ g1)
    refine ⟨p, rfl, ⟨vs, sq _ S1.1.ex⟩, h1 _ _ _ (Ex.refl _) S1.1 ?_⟩
    rw [hK]
    rw [hK] at s1
    exact walks_l (SqL.of g1) s1
  | _ => exact h1.elim
theorem mo_lcS (hc : L2H.HotC X) (hN : X.N.Nodup) (hi : PIS X tg iter (rdI c (mItL a))) (ok : BlkOk X.N X.env.scope scope own)
    (hg : ∀ (s : Shared) (H : Hp) (C : Addr) (cl : List (Str × Addr)) (fp : List Addr), HotS (X.blk s H scope (compEnvC scope cl C X.env) fp) → PG (X.blk s H scope (compEnvC scope cl C X.env) fp) tg (gOf X.K g))
    (ht : ∀ (s : Shared) (H : Hp) (C : Addr) (cl : List (Str × Addr)) (fp : List Addr), PTs (X.blk s H scope (compEnvC scope cl C X.env) fp) ifs (rdT c t)) (he : ∀ (s : Shared) (H : Hp) (C : Addr) (cl : List (Str × Addr)) (fp : List Addr), PE (X.blk s H scope (compEnvC scope cl C X.env) fp) elt (rdE c e))
    (hgs : ∀ i ∈ g.slots, i ∈ own.map (·.2) := by decide) (hbs : ∀ i ∈ own.map (·.2), c.bs.contains i = false := by decide) (hK : c.K = X.K := by rfl) (hs : ∀ x, foldedSetIterable iter X.env x = pure x := by intro _; rfl) :
    PE X (.ListComp elt [⟨tg, iter, ifs, 0⟩] scope pos) (rdO c (mLcO (mItL a) g t e (own.map (·.2)))) := PEw (pe_lcS hc hN hi ok hg ht he hs) fun σ H Q h => by rw [← hK]; exact rd_lc hgs hbs h
end
theorem xc_of {K : PySem.W.Frag} {mg : Str → Option Value} {fs ts : List Str} {x : Str} {C : Addr} (Xs : ∀ x ∈ ts, XcF K mg fs x) (hC : mg x = some (.ref C)) (hT : x ∈ ts) : XcG K C fs := by
  obtain ⟨C', h1, h2⟩ := (Xs x hT).ex
  rw [hC] at h1
  cases h1
  exact xcB_ok h2
theorem ki_of {K : PySem.W.Frag} {mg : Str → Option Value} {y x : Str} {ts : List Str} {l tab : List (Str × Bool)} (Ks : ∀ p ∈ l, KiT K mg y p.1 p.2) (h : ts.all (fun x => match tab.lookup x with | some b => l.contains (x, b) | none => true) = true) (hT : x ∈ ts) : ∀ b, tab.lookup x = some b → KiT K mg y x b := fun b hb => by
  have z := List.all_eq_true.mp h x hT
  rw [hb] at z
  exact Ks (x, b) (by simpa using z)
structure KiB (K : PySem.W.Frag) (mg : Str → Option Value) (T : String) (x : Str) : Prop where
  ex : ∃ C, mg x = some (.ref C) ∧ PySem.W.kitOne K (.ref C) (.type T) = some true
theorem kib_of {K : PySem.W.Frag} {mg : Str → Option Value} {T : String} {ts : List Str} {x : Str} {C : Addr} (Ks : ∀ x ∈ ts, KiB K mg T x) (hC : mg x = some (.ref C)) (hT : x ∈ ts) : PySem.W.kitOne K (.ref C) (.type T) = some true := by
  obtain ⟨C', h1, h2⟩ := (Ks x hT).ex
  rw [hC] at h1
  cases h1
  exact h2
@[simp] theorem mItL_ap {a : ME} {r : Option MV} {ρ : Env} : mItL a (r :: ρ) = (a (r :: ρ)).bind fun x ρ1 => match x with | .lst xs => .ok (xs, ρ1) | _ => .stuck := nr rfl
end Tm
set_option Elab.async false
set_option linter.all false
set_option maxRecDepth 100000
set_option maxHeartbeats 2000000
namespace Tm
open PySem L2 PySem.Spec PyProof.Rows
open Evl (Ex ex_rd ex_l ex_t)
def wEach (K : PySem.W.Frag) (i : Nat) (Wo : WX) (D : Ends) : List (Value × (Addr → Value → Option Addr → TS)) → WX
  | [] => Wo
  | q :: r => wAs K q.1 i q.2 (wEach K i Wo D r) D
inductive HdE (X : Cx) (n : Str) : List ExceptHandler → List (Value × (Addr → Value → Option Addr → TS)) → Prop
  | nil : HdE X n [] []
  | cons {y : Str} {c : Value} {ts : Addr → Value → Option Addr → TS} {b₀ : Stmt} {suite : List Stmt} {np p : Pos} {hds : List ExceptHandler} {l : List (Value × (Addr → Value → Option Addr → TS))} (hc : Names X y c)
      (hsu : ∀ (a : Addr) (oe : Obj) (cls : Value) (d : Option Addr) (pn : List (Addr × Obj)), L2N.Zn cls d oe → (∃ vs, oe.data = .fields vs) → PSs (X.suite a ((a, oe) :: pn)) (b₀ :: suite) (ts a cls d)) (r : HdE X n hds l) :
      HdE X n (.ExceptHandler (some (.Name y np)) (some n) (b₀ :: suite) p :: hds) ((c, ts) :: l)
def hand1 (i : Nat) (tab : List (Str × Bool)) (mh : MX → MS) (e : MX) (rest : Res (Fl × Env)) (ρ1 : Env) : Res (Fl × Env) := match tab.lookup e.cls with
  | some true => if decide (i < ρ1.length) && e.fs.all (fun p => flatM p.2) then (match mh e (ρ1.set i none) with
      | .ok (.rt v, ρ2) => .ok (.rt v, ρ2)
      | .ok (f, ρ2) => .ok (f, ρ2.set i none)
      | _ => .stuck) else .stuck
  | some false => rest
  | none => .stuck
def handN (i : Nat) (e : MX) (ρ1 : Env) : List (List (Str × Bool) × (MX → MS)) → Res (Fl × Env)
  | [] => .exc e ρ1
  | q :: r => hand1 i q.1 q.2 e (handN i e ρ1 r) ρ1
def mTryN (i : Nat) (cs : List (List (Str × Bool) × (MX → MS))) (mb : MS) : MS := fun ρ => match mb ρ with
  | .ok r => .ok r
  | .stuck => .stuck
  | .exc e ρ1 => handN i e ρ1 cs
section
variable {c : Ct} {i : Nat} {tab : List (Str × Bool)} {mh : MX → MS} {y : Str} {D : Ends} {F Hk : Hp} {bp : List (Nat × Addr)} {mg : Str → Option Value}
theorem hand1_ok {e : MX} {ρ1 : Env} {rest : Res (Fl × Env)} {Wo : WX} {Dy : Addr} (hDy : mg y = some (.ref Dy)) (hmg : c.mg = mg) (ht : ∀ p ∈ tab, ExT c.K mg y p.1 p.2) (hbs : c.bs.contains i = false) (S2 : bp.map (·.1) = c.bs ∧ c.J F bp)
    (h : okS c F Hk bp D (hand1 i tab mh e rest ρ1)) {Hk' H' : Hp} {σ' : L2.St} {cls : Value} {d : Option Addr} (x : Ex Hk Hk') (S1 : RS c.K F Hk' H' bp σ' ρ1) (er : ExR c.K c.mg Hk' e cls d)
    (hr : okS c F Hk bp D rest → Wo cls d σ' H') :
    wAs c.K (.ref Dy) i (fun a cls d D σ H => ∃ e C, mg e.cls = some (.ref C) ∧ cls = .ref C ∧ (e.cls, true) ∈ tab ∧ rdS (cH c i a e d) (mh e) D σ H) Wo D cls d σ' H' := by
  unfold hand1 at h
  obtain ⟨C, g1, g2, g3⟩ := er
  subst g2
  have g1' : mg e.cls = some (.ref C) := by rw [← hmg]; exact g1
  cases el : tab.lookup e.cls with
  | none => simp only [el] at h; exact h.elim
  | some b =>
    obtain ⟨C', D', k1, k2, k3⟩ := (ht _ (lookup_mem el)).ex
    rw [g1'] at k1
    cases k1
    rw [hDy] at k2
    cases k2
    refine ⟨b, k3, fun hyes a ha => ?_, fun hno => ?_⟩
    · subst hyes
      simp only [el] at h
      split at h
      · rename_i hc
        simp only [Bool.and_eq_true, decide_eq_true_eq] at hc
        refine ⟨e, C, g1', rfl, lookup_mem el, ?_⟩
        have hbq : ∀ q ∈ bp, q.1 ≠ i := nb S2.1 hbs
        have main : ∃ F2 Hk2, RS c.K F2 Hk2 H' ((i, a) :: bp) (σ'.set i (some (.ref a))) (ρ1.set i none) ∧ Ex F F2 ∧ XIn F2 e d ∧ ∀ Hk3 H3 bq σ3 ρ3, Ex Hk2 Hk3 → RS c.K F2 Hk3 H3 bq σ3 ρ3 → ∃ Hk4, Ex Hk' Hk4 ∧ RS c.K F Hk4 H3 bq σ3 ρ3 ∧ Ex Hk3 Hk4 := by
          rcases g3 with g3 | ⟨dx, vfs, q1, q2, q3⟩
          · exact ⟨F, Hk', S1.hold hc.1 hbq, Ex.refl _, .inl g3, fun Hk3 H3 bq σ3 ρ3 x3 S3 => ⟨Hk3, x3, S3, Ex.refl _⟩⟩
          · have fn : F dx = none := by
              cases e0 : F dx with
              | none => rfl
              | some o => have := S1.frk dx o e0; rw [q2] at this; cases this
            refine ⟨_, _, (S1.hold hc.1 hbq).aside q2, Ex.new fn, .inr ⟨dx, vfs, q1, upd_same, fun K H => q3.flat hc.2⟩, fun Hk3 H3 bq σ3 ρ3 x3 S3 => ⟨_, fun b o hb => ?_, S3.back_in fn, Ex.new (S3.frk dx _ upd_same)⟩⟩
            by_cases e0 : b = dx
            · subst e0; rw [q2] at hb; cases hb; exact upd_same
            · rw [upd_ne e0]
              exact x3 _ _ (by rw [del_ne e0]; exact hb)
        obtain ⟨F2, Hk2, S2', xF, xi, out⟩ := main
        refine ⟨F2, Hk2, (i, a) :: bp, _, ⟨S2', ?_, ⟨bp, rfl, c.Jm _ _ _ xF S2.2⟩, xi⟩, ?_⟩
        · show i :: bp.map (·.1) = i :: c.bs
          rw [S2.1]
        cases eh : mh e (ρ1.set i none) with
        | stuck => rw [eh] at h; exact h.elim
        | exc e2 ρ2 => rw [eh] at h; exact h.elim
        | ok r =>
          obtain ⟨f, ρ2⟩ := r
          rw [eh] at h
          cases f with
          | nx =>
            intro Hk3 H3 σ3 x3 S3
            obtain ⟨Hk4, x4, S4, _⟩ := out Hk3 H3 _ _ _ x3 S3
            exact h Hk4 H3 _ (x.trans x4) (S4.unhold hbq)
          | br =>
            intro Hk3 H3 σ3 x3 S3
            obtain ⟨Hk4, x4, S4, _⟩ := out Hk3 H3 _ _ _ x3 S3
            exact h Hk4 H3 _ (x.trans x4) (S4.unhold hbq)
          | ct =>
            intro Hk3 H3 σ3 x3 S3
            obtain ⟨Hk4, x4, S4, _⟩ := out Hk3 H3 _ _ _ x3 S3
            exact h Hk4 H3 _ (x.trans x4) (S4.unhold hbq)
          | rt v =>
            intro Hk3 H3 σ3 w x3 hq S3
            obtain ⟨Hk4, x4, S4, _⟩ := out Hk3 H3 _ _ _ x3 S3
            exact h Hk4 H3 _ w (x.trans x4) (fun q hq' => hq q (List.mem_cons_of_mem _ hq')) S4.less
      · exact h.elim
    · subst hno
      simp only [el] at h
      exact hr h
end
inductive HdM (X : Cx) (c : Ct) (i : Nat) (n : Str) : List ExceptHandler → List (List (Str × Bool) × (MX → MS)) → Prop
  | nil : HdM X c i n [] []
  | cons {y : Str} {b₀ : Stmt} {suite : List Stmt} {np p : Pos} {hds : List ExceptHandler} {tab : List (Str × Bool)} {mh : MX → MS} {l : List (List (Str × Bool) × (MX → MS))} (hg : Gl X y) (ht : ∀ p ∈ tab, ExT X.K X.mg y p.1 p.2) (hne : ∃ D, X.mg y = some (.ref D))
      (hsu : ∀ (a : Addr) (oe : Obj) (C : Addr) (d : Option Addr) (pn : List (Addr × Obj)) (e : MX), X.mg e.cls = some (.ref C) → (e.cls, true) ∈ tab → L2N.Zn (.ref C) d oe → (∃ vs, oe.data = .fields vs) → PSs (X.suite a ((a, oe) :: pn)) (b₀ :: suite) (rdS (cH c i a e d) (mh e)))
      (hdb : (y == ("__debug__" : Str)) = false) (r : HdM X c i n hds l) :
      HdM X c i n (.ExceptHandler (some (.Name y np)) (some n) (b₀ :: suite) p :: hds) ((tab, mh) :: l)
section
variable {X : Cx} {c : Ct} {n : Str} {i : Nat} {body : List Stmt} {h₀ : ExceptHandler} {hds : List ExceptHandler} {pos : Pos} {mb : MS} {cs : List (List (Str × Bool) × (MX → MS))}
theorem HdM.each (hK : c.K = X.K) (hmg : c.mg = X.mg) (hbs : c.bs.contains i = false) {hds : List ExceptHandler} {cs : List (List (Str × Bool) × (MX → MS))} (h : HdM X c i n hds cs) :
    ∃ l, HdE X n hds l ∧ ∀ {F Hk : Hp} {bp : List (Nat × Addr)} {D : Ends} {e : MX} {ρ1 : Env}, (bp.map (·.1) = c.bs ∧ c.J F bp) → okS c F Hk bp D (handN i e ρ1 cs) →
      ∀ {Hk' H' : Hp} {σ' : L2.St} {cls : Value} {d : Option Addr}, Ex Hk Hk' → RS c.K F Hk' H' bp σ' ρ1 → ExR c.K c.mg Hk' e cls d → wEach c.K i c.W D l cls d σ' H' := by
  induction h with
  | nil => exact ⟨[], .nil, by intro F Hk bp D e ρ1 S2 h Hk' H' σ' cls d x S1 er; exact h Hk' H' σ' cls d x S1 er⟩
  | @cons y b₀ suite np p hds tab mh l hg ht hne hsu hdb r ih =>
    obtain ⟨l', e1, e2⟩ := ih
    obtain ⟨Dy, hDy⟩ := hne
    refine ⟨(.ref Dy, fun a cls d D σ H => ∃ e C, X.mg e.cls = some (.ref C) ∧ cls = .ref C ∧ (e.cls, true) ∈ tab ∧ rdS (cH c i a e d) (mh e) D σ H) :: l', .cons ⟨hg, hdb, .inl hDy⟩ (fun a oe cls d pn hz hv => ⟨fun pins s σ H D I ⟨e, C, h1, h2, h3, h4⟩ => (hsu a oe C d pn e h1 h3 (by rw [← h2]; exact hz) hv).run pins s σ H D I h4⟩) e1, ?_⟩
    intro F Hk bp D e ρ1 S2 h Hk' H' σ' cls d x S1 er
    exact hand1_ok hDy hmg (by rw [hK]; exact ht) hbs S2 h x S1 er fun hr => e2 S2 hr x S1 er
end
section
variable {i : Nat} {cs : List (List (Str × Bool) × (MX → MS))} {mb : MS} {r : Option MV} {ρ : Env} {tab : List (Str × Bool)} {mh : MX → MS} {e : MX}
def tryN (i : Nat) (cs : List (List (Str × Bool) × (MX → MS))) (q : Res (Fl × Env)) : Res (Fl × Env) := match q with
  | .ok r => .ok r
  | .stuck => .stuck
  | .exc e ρ1 => handN i e ρ1 cs
@[simp] theorem mTryN_ap : mTryN i cs mb (r :: ρ) = tryN i cs (mb (r :: ρ)) := nr rfl
@[simp] theorem tryN_ok {q : Fl × Env} : tryN i cs (.ok q) = .ok q := nr rfl
@[simp] theorem tryN_exc : tryN i cs (.exc e ρ) = handN i e ρ cs := nr rfl
theorem handN_yes (h : tab.lookup e.cls = some true) (h2 : i < ρ.length) (h3 : e.fs.all (fun p => flatM p.2) = true) : handN i e ρ ((tab, mh) :: cs) = endM i (mh e (ρ.set i none)) := by
  show hand1 i tab mh e (handN i e ρ cs) ρ = _
  unfold hand1 endM
  simp only [h, h2, h3, decide_true, Bool.and_self, if_true] <;> (rcases mh e (ρ.set i none) with ⟨f, ρ2⟩ | _ | _ <;> first | rfl | (cases f <;> rfl))
theorem handN_no (h : tab.lookup e.cls = some false) : handN i e ρ ((tab, mh) :: cs) = handN i e ρ cs := by
  show hand1 i tab mh e (handN i e ρ cs) ρ = _
  unfold hand1
  simp only [h]
end
end Tm
set_option Elab.async false
set_option linter.all false
set_option maxRecDepth 100000
set_option maxHeartbeats 2000000
namespace Tm
open PySem L2 PySem.Spec PyProof.Rows
open Evl (Ex ex_rd ex_l ex_t)
section
variable {K : PySem.W.Frag} {F Hk H : Hp} {bp : List (Nat × Addr)} {σ : L2.St} {ρ : Env}
theorem RS.frame (S : RS K F Hk H bp σ ρ) {p : Addr} (o : HO) (h : H p = none) : RS K (upd F p o) Hk (upd H p o) bp σ ρ := by
  obtain ⟨ow, s⟩ := S.ow
  have np : ∀ i a, a ∈ ow i → a ≠ p := fun i a ha z => s.fresh h i (by rw [← z]; exact ha)
  have s2 : SL K F Hk (upd H p o) ow σ ρ := s.step (Ex.refl _) fun i a ha => ⟨upd_ne (np i a ha), (s.f i a ha).1⟩
  have hk : Hk p = none := S.ex.back h
  refine ⟨S.len, S.ex.mut hk, fun a u q => ?_, fun a u q => ?_, ⟨ow, s2.s, fun i a q => ⟨(s2.f i a q).1, by rw [upd_ne (np i a q)]; exact (s2.f i a q).2.1, (s2.f i a q).2.2⟩, s2.w, s2.d⟩, S.bor⟩
  · by_cases e : a = p
    · subst e; rw [upd_same] at q ⊢; exact q
    · rw [upd_ne e] at q ⊢; exact S.fr a u q
  · by_cases e : a = p
    · subst e; exact hk
    · rw [upd_ne e] at q; exact S.frk a u q
end
structure DPs (X : Cx) (c : Ct) (pos : Pos) (keys : List (Option Expr)) (values : List Expr) (ks : List Key) (m : MA) : Prop where
  ex : ∃ trs, PPs X pos keys values trs ∧ ∀ (σ : L2.St) (H : Hp) (Q : List (V × V) → Hp → Prop), rdA c m σ H (fun vs H' => Q ((ks.map kV).zip vs) H') → tPairs trs σ H Q
def dctIs : List (Str × MV) → List DictEntry → Bool
  | [], [] => true
  | p :: t, e :: r => e.key.isStr p.1 && flatIs p.2 e.val && dctIs t r
  | _, _ => false
structure DCst (K : PySem.W.Frag) (w : World) (mg : Str → Option Value) (x : Str) (tab : List (Str × MV)) : Prop where
  ex : ∃ a es n, mg x = some (.ref a) ∧ KDict K w a es n ∧ dctIs tab es.toList = true
end Tm
set_option Elab.async false
set_option linter.all false
set_option maxRecDepth 100000
set_option maxHeartbeats 2000000
namespace Tm
open PySem L2 PySem.Spec PyProof.Rows
open Evl (Ex ex_rd ex_l ex_t)
def bStrA : List MV → Option MV
  | [.int i] => if decide (i.natAbs.log2 < 1920) then some (.str (toString i)) else none
  | [.bl b] => some (.str (if b then "True" else "False"))
  | [.str s] => some (.str s)
  | _ => none
def rStrA : List V → Hp → VK → Prop := fun xs H Q => ((∃ i, xs = [.int i] ∧ i.natAbs.log2 < 1920 ∧ Q (.str (toString i)) H) ∨ ∃ a, xs = [.str a] ∧ Q (.str a) H) ∨ ∃ b, xs = [.bl b] ∧ Q (.str (if b then "True" else "False")) H
theorem call_str_bl {X : Cx} : CallR X (.type "str") (fun xs H Q => ∃ b, xs = [.bl b] ∧ Q (.str (if b then "True" else "False")) H) := by
  intro pins s σ H xs us Q I r h
  obtain ⟨b, rfl, q⟩ := h
  obtain ⟨u, rfl, r1⟩ := vals1 r
  cases r1
  exact PySem.P.str_of_bool ⟨.str _, H, I.tok _, ⟨_, rfl⟩, q⟩
theorem cr_strA {X : Cx} : CallR X (.type "str") rStrA := CallR.or (CallR.or call_str_int SkE.call_str_str) call_str_bl
theorem cs_strA {K : PySem.W.Frag} : CallS K bStrA rStrA := by
  intro xs z vs Hk H Q e ex r q qn
  unfold bStrA at e
  split at e
  · split at e
    · rename_i h
      cases e
      exact .inl (.inl ⟨_, rvs_int1 r, of_decide_eq_true h, q _ (RV.str.mpr rfl)⟩)
    · cases e
  · cases e
    obtain ⟨v, us, rfl, r1, r2⟩ := RVs.cons.mp r
    rw [RVs.nil.mp r2, RV.bl.mp r1]
    exact .inr ⟨_, rfl, q _ (RV.str.mpr rfl)⟩
  · cases e
    obtain ⟨v, us, rfl, r1, r2⟩ := RVs.cons.mp r
    rw [RVs.nil.mp r2, RV.str.mp r1]
    exact .inl (.inr ⟨_, rfl, q _ (RV.str.mpr rfl)⟩)
  · cases e
section
variable {X : Cx} {c : Ct} {a : MA} {e : Expr} {p pos : Pos}
theorem mb_strA (hm : X.mg "str" = none) (ha : PA X [e] (rdA c a)) (hg : Gl X "str" := by rfl) (he : starEach [e] X.env = (false, eval e X.env) :: starEach [] X.env := by rfl) (hpl : (backTo pos (starEach [] X.env)).any (·.1) = false := by rfl) : PE X (.Call (.Name "str" p) [e] [] pos) (rdE c (mBlt bStrA a)) :=
  me_ty cr_strA cs_strA hm (by decide +kernel) ha hg (he := he) (hpl := hpl)
end
@[simp] theorem bStrA_i {i : Int} : bStrA [.int i] = if decide (i.natAbs.log2 < 1920) then some (.str (toString i)) else none := nr rfl
@[simp] theorem bStrA_b {b : Bool} : bStrA [.bl b] = some (.str (if b then "True" else "False")) := nr rfl
@[simp] theorem bStrA_s {s : Str} : bStrA [.str s] = some (.str s) := nr rfl
end Tm
set_option Elab.async false
set_option linter.all false
set_option maxRecDepth 100000
set_option maxHeartbeats 2000000
namespace Tm
open PySem L2
open Evl (Ex ex_rd ex_l ex_t)
theorem OV.dow {K : PySem.W.Frag} {Hk H : Hp} {ks : List Key} {xs : List MV} {v : V} {A : List Addr} : OV K Hk H (.dow ks xs) v A ↔ ∃ p vs, v = .ref p ∧ A = [p] ∧ H p = some (.dK (ks.zip vs)) ∧ ks.length = xs.length ∧ RVs K Hk xs vs := by
  unfold OV OF; rfl
end Tm
set_option Elab.async false
set_option linter.all false
set_option maxRecDepth 100000
set_option maxHeartbeats 2000000
namespace Tm
open PySem L2 PySem.Spec PyProof.Rows
open Evl (Ex ex_rd ex_l ex_t)
inductive Tst
  | one (c : Value)
  | two (c1 c2 : Value)
def Tst.ans (K : PySem.W.Frag) (cls : Value) : Tst → Option Bool
  | .one c => PySem.W.exmOne K cls c
  | .two c1 c2 => PySem.W.exmAny K cls [c1, c2]
def wAsT (K : PySem.W.Frag) (t : Tst) (i : Nat) (ts : Addr → Value → Option Addr → TS) (Wout : WX) (D : Ends) : WX := fun cls d σ H =>
  ∃ b, t.ans K cls = some b ∧ (b = true → ∀ a, H a = none → ts a cls d { nx := fun σ' H' => D.nx (σ'.set i none) H', rt := D.rt, bk := fun σ' H' => D.bk (σ'.set i none) H', ct := fun σ' H' => D.ct (σ'.set i none) H' } (σ.set i (some (.ref a))) H) ∧
    (b = false → Wout cls d σ H)
def wEachT (K : PySem.W.Frag) (i : Nat) (Wo : WX) (D : Ends) : List (Tst × (Addr → Value → Option Addr → TS)) → WX
  | [] => Wo
  | q :: r => wAsT K q.1 i q.2 (wEachT K i Wo D r) D
inductive TstE (X : Cx) : Expr → Tst → Prop
  | one {y : Str} {c : Value} {np : Pos} (hc : Names X y c) : TstE X (.Name y np) (.one c)
  | two {y1 y2 : Str} {c1 c2 : Value} {p1 p2 tp : Pos} {k : Nat} (h1 : Names X y1 c1) (h2 : Names X y2 c2) : TstE X (.Tuple [.Name y1 p1, .Name y2 p2] k tp) (.two c1 c2)
theorem fly_more {B : Heap} {l : List PySem.Env} {a : Addr} {Z : Obj → Prop} {h h' : Heap} (fl : HandSPX.FlyingZ B l a Z h) (k : ∀ q o, h.get? q = some o → h'.get? q = some o) : HandSPX.FlyingZ B l a Z h' := by
  obtain ⟨f1, f2, f3, oe, vs, T, oT, ts, e1, e2, e3, e4, e5, e6, e7, e8, e9⟩ := fl
  exact ⟨fun b o hb => k _ _ (f1 b o hb), f2, f3.of_keeps fun b o hb _ => ⟨o, k _ _ hb, rfl⟩, oe, vs, T, oT, ts, k _ _ e1, e2, e3, e4, e5, e6, k _ _ e7, e8, e9⟩
theorem up_more {h h' : Heap} (k : ∀ q o, h.get? q = some o → h'.get? q = some o) : h.UpToSlots h' := fun b o e _ => ⟨o.slots, k _ _ e⟩
theorem tst_ok {X : Cx} {te : Expr} {t : Tst} {pins : List (Addr × Obj)} {σ : L2.St} {H : Hp} {s : Shared} {a : Addr} {cls : Value} {b : Bool} {Q : Bool → Shared → Prop} {E : Value → Shared → Prop} {A2 : Around} (ht : TstE X te t) (S : Inv X pins σ H s)
    (hb : t.ans X.K cls = some b) (LT : PySem.W.Looks (model X.prog X.w) s.heap (typeOf (.ref a)) cls)
    (q : ∀ h', (∀ q o, s.heap.get? q = some o → h'.get? q = some o) → Q b { s with heap := h' }) :
    wpAny (model X.prog X.w) X.A (eval te X.env) (fun c s₁ => wpAny (model X.prog X.w) A2 (excMatches (.ref a) c) Q E s₁) E s := by
  have test : ∀ {y : Str} {np : Pos} {c : Value} {Q : Value → Shared → Prop} {E : Value → Shared → Prop}, Names X y c → Q c s → wpAny (model X.prog X.w) X.A (eval (.Name y np) X.env) Q E s := fun {y np c Q E} hc q => by
    obtain ⟨hg, hdbg, hm | ⟨hm, hv, hnn⟩⟩ := hc
    · exact ld_glob (X := X) S hg hm q hdbg
    · exact ld_blt (X := X) S hg hm hv q hnn hdbg
  cases ht with
  | one hc => exact test hc ((PySem.W.exm_one S.kIn LT hb).here (q s.heap fun _ _ z => z))
  | @two y1 y2 c1 c2 p1 p2 tp k h1 h2 =>
    refine wpAny_Tuple ?_
    refine wpAny_items_cons (test h1 ?_)
    refine wpAny_items_cons (test h2 ?_)
    refine wpAny_items_nil ⟨by size_fits, ?_⟩
    have kp : ∀ q o, s.heap.get? q = some o → (s.heap.push { cls := .type "tuple", data := .seq [c1, c2].toArray }).get? q = some o := fun _ _ z => Heap.get?_push_of_some _ z
    exact (PySem.W.exm_tup2 (S.kIn.keeps kp) (LT.keeps kp) (Heap.get?_push_size s.heap rfl) hb).here (q _ kp)
theorem TstE.suite {X : Cx} {te : Expr} {t : Tst} (h : TstE X te t) (a : Addr) (pn : List (Addr × Obj)) : TstE (X.suite a pn) te t := by
  cases h with
  | one hc => exact .one hc
  | two h1 h2 => exact .two h1 h2
inductive HdT (X : Cx) (n : Str) : List ExceptHandler → List (Tst × (Addr → Value → Option Addr → TS)) → Prop
  | nil : HdT X n [] []
  | cons {te : Expr} {t : Tst} {ts : Addr → Value → Option Addr → TS} {b₀ : Stmt} {suite : List Stmt} {p : Pos} {hds : List ExceptHandler} {l : List (Tst × (Addr → Value → Option Addr → TS))} (hc : TstE X te t)
      (hsu : ∀ (a : Addr) (oe : Obj) (cls : Value) (d : Option Addr) (pn : List (Addr × Obj)), L2N.Zn cls d oe → (∃ vs, oe.data = .fields vs) → PSs (X.suite a ((a, oe) :: pn)) (b₀ :: suite) (ts a cls d)) (r : HdT X n hds l) :
      HdT X n (.ExceptHandler (some te) (some n) (b₀ :: suite) p :: hds) ((t, ts) :: l)
section
variable {X : Cx} {n : Str} {i : Nat} {body : List Stmt} {h₀ : ExceptHandler} {hds : List ExceptHandler} {l : List (Tst × (Addr → Value → Option Addr → TS))} {pos : Pos} {tb : WX → TS} {Wo : WX}
theorem ps_try_eachT (hs : X.stack = X.env :: X.outer) (hf : X.env.frame = some X.env.locals) (hN : X.N.Nodup) (hi : X.N[i]? = some n) (hln : X.env.kindOf n = some .local) (tk : L2N.Takes X Wo)
    (hb : ∀ (W : WX) (pn : List (Addr × Obj)) (xe : Value → Shared → Prop), L2N.Takes (X.tr pn xe) W → PassesOwn (model X.prog X.w) X.A X.env xe → PSs (X.tr pn xe) body (tb W))
    (hh : HdT X n (h₀ :: hds) l) : PS X (.Try body (h₀ :: hds) [] [] pos) (fun D σ H => tb (wEachT X.K i Wo D l) D σ H) := by
  refine ⟨fun pins s σ H D I h => ?_⟩
  have ok := I.ok
  have hfr : X.A.frames = some (X.env :: X.outer) := by rw [ok.frames, hs]
  have hloc : Loc X.env.scope n := .inl hln
  refine wpAny_Try_except ?_
  refine wpAny_mono ((hb (wEachT X.K i Wo D l) (X.pn ++ pins) (fun e s₁ => wpAny (model X.prog X.w) X.A (noteFrame e X.env) (fun _ s₂ => wpAny (model X.prog X.w) X.A (setFlight e none) (fun _ s₃ =>
    wpAny (model X.prog X.w) X.A (handleBy e X.env (h₀ :: hds)) (SP X pins D) X.xe s₃) X.xe s₂) X.xe s₁) (fun u s' xx => ?_) PassesOwn.looking).run [] s σ H D (I.toTry _) h) (fun f s1 hsp => ?_) (fun e s1 he => he)
  · obtain ⟨a, B, sI, pins', σ', H', cls, d, rfl, J', nb, up, sky, na, os, ag, w⟩ := xx
    have J : Inv X pins σ' H' sI := J'.ofTry ok
    have sky' : Sky B (X.env :: X.outer) a (L2N.Zn cls d) X.env.locals s'.heap := by rw [← hs]; exact sky
    show wpAny (model X.prog X.w) X.A (noteFrame (.ref a) X.env) _ _ _
    refine L2N.Sky.land L2N.Zn.steady hfr hf sky' fun h3 fl up3 => ?_
    have go : ∀ {hds' : List ExceptHandler} {l' : List (Tst × (Addr → Value → Option Addr → TS))}, HdT X n hds' l' → ∀ (h3 : Heap), HandSPX.FlyingZ B (X.env :: X.outer) a (L2N.Zn cls d) h3 → s'.heap.UpToSlots h3 → wEachT X.K i Wo D l' cls d σ' H' →
        wpAny (model X.prog X.w) X.A (handleBy (.ref a) X.env hds') (SP X pins D) X.xe { s' with heap := h3 } := by
      intro hds' l' hk
      induction hk with
      | nil =>
        intro h3 fl up3 w
        have J3 : Inv X pins σ' H' { s' with heap := h3 } := J.landed nb fl.1 (up.trans up3) os ag
        obtain ⟨oe, vs, he, hz, hd⟩ := fl.there
        refine wpAny_handleBy_nil ?_
        obtain ⟨_, _, _, o, us, T, _, _, e1, _, e2, e3, _⟩ := id fl
        unfold PySem.passOn
        refine wpAny_bind (wpAny_field e1 e2 e3 ?_)
        rw [if_neg (show ¬ ((Value.ref T == Value.none) = true) from by simp)]
        have fin : wpAny (model X.prog X.w) X.A (setFlight (.ref a) X.env.frame) (fun _ s4 => wpAny (model X.prog X.w) X.A (throw (.ref a) : Sem Flow) (SP X pins D) X.xe s4) X.xe { s' with heap := h3 } := by
          rw [hf]
          exact HandSPX.setFlight_upZ fl fun h4 hh4 up4 => wpAny_throw (tk _ _ ⟨a, B, sI, pins, σ', H', cls, d, rfl, J, nb, (up.trans up3).trans up4, .inr (.inr (by rw [hs]; exact hh4)), na, os, ag, w⟩)
        first
          | exact wpAny_bind (wpAny_pure (wpAny_bind fin))
          | exact wpAny_bind fin
      | @cons te t ts b₀ suite p hds2 l2 hc hsu r ih =>
        intro h3 fl up3 w
        have J3 : Inv X pins σ' H' { s' with heap := h3 } := J.landed nb fl.1 (up.trans up3) os ag
        obtain ⟨oe, vs, he, hz, hd⟩ := fl.there
        have out : a ∉ frs (X.env :: X.outer) := fun hm => by
          obtain ⟨_, o', e', hnf⟩ := fl.2.2.1.mem hm
          rw [he] at e'; cases e'
          exact hnf _ hd
        have nL : a ≠ X.env.locals := fun z => out (List.mem_filterMap.mpr ⟨X.env, List.mem_cons_self, by rw [hf, z]⟩)
        have nF : a ∉ X.fs := fun hm => by
          obtain ⟨e, q1, q2⟩ := List.mem_filterMap.mp hm
          exact out (List.mem_filterMap.mpr ⟨e, List.mem_cons_of_mem _ q1, q2⟩)
        have S3 := J3.suite he hd na nL nF
        obtain ⟨b, hb1, hyes, hno⟩ := w
        refine wpAny_handleBy_cons (codeAny_handlers_test ?_) (by intro q; cases q)
        refine tst_ok (X := X.suite a ((a, oe) :: (X.pn ++ pins))) (hc.suite a _) S3 hb1 (fun A Q E s k q => wpAny_typeOf_ref (k _ _ he) (by rw [hz.1]; exact q)) fun h5 k5 => ?_
        have fl5 := fly_more fl k5
        have up5 : s'.heap.UpToSlots h5 := up3.trans (up_more k5)
        cases b with
        | false =>
          show wpAny _ X.A (handleBy (.ref a) X.env hds2) _ _ _
          exact ih h5 fl5 up5 (hno rfl)
        | true =>
          refine codeAny_handlers_suite_as ?_
          refine HandSPX.lands_againZ fl5 fun h4 fl4 up4 => ?_
          have J4 : Inv X pins σ' H' { s' with heap := h4 } := J.landed nb fl4.1 ((up.trans up5).trans up4) os ag
          obtain ⟨oe4, vs4, he4, hz4, hd4⟩ := fl4.there
          have S4 := J4.suite he4 hd4 na nL nF
          refine store_ok (X := X.suite a ((a, oe4) :: (X.pn ++ pins))) (v := .ref a) S4 hN hi hloc rfl (fun s5 S5 => ?_) (.inr hln)
          refine wpAny_mono ((hsu a oe4 cls d (X.pn ++ pins) hz4 ⟨_, hd4⟩).run [] s5 _ H' _ S5 (hyes rfl a na)) (fun f s6 hsp => ?_) (fun _ _ z => False.elim z)
          have gone : ∀ {σ6 : L2.St} {H6 : Hp} {Q : Shared → Prop}, Inv (X.suite a ((a, oe4) :: (X.pn ++ pins))) [] σ6 H6 s6 → (∀ s7, Inv X pins (σ6.set i none) H6 s7 → Q s7) →
              wpAny (model X.prog X.w) X.A (do bindName X.env n .none; unbindBehindTheSuite X.env n p) (fun _ s7 => Q s7) X.xe s6 := fun {σ6 H6 Q} S6 hq => gone_ok (S6.unsuite ok) hN hi hln hq
          cases f with
          | next => obtain ⟨σ6, H6, S6, q6⟩ := hsp; exact gone S6 fun s7 J7 => ⟨_, _, J7, q6⟩
          | brk => obtain ⟨σ6, H6, S6, q6⟩ := hsp; exact gone S6 fun s7 J7 => ⟨_, _, J7, q6⟩
          | cont => obtain ⟨σ6, H6, S6, q6⟩ := hsp; exact gone S6 fun s7 J7 => ⟨_, _, J7, q6⟩
          | ret u => obtain ⟨v6, σ6, H6, S6, r6, q6⟩ := hsp; exact gone S6 fun s7 J7 => ⟨_, _, _, J7, r6, q6⟩
    exact go hh h3 fl up3 w
  · cases f with
    | next => obtain ⟨σ', H', J', q⟩ := hsp; exact wpAny_execs_nil ⟨σ', H', J'.ofTry ok, q⟩
    | brk => obtain ⟨σ', H', J', q⟩ := hsp; exact ⟨σ', H', J'.ofTry ok, q⟩
    | cont => obtain ⟨σ', H', J', q⟩ := hsp; exact ⟨σ', H', J'.ofTry ok, q⟩
    | ret u => obtain ⟨v, σ', H', J', r, q⟩ := hsp; exact ⟨v, σ', H', J'.ofTry ok, r, q⟩
end
section
variable {c : Ct} {i : Nat} {tab : List (Str × Bool)} {mh : MX → MS} {y : Str} {D : Ends} {F Hk : Hp} {bp : List (Nat × Addr)} {mg : Str → Option Value}
theorem hand1_okT {t : Tst} {e : MX} {ρ1 : Env} {rest : Res (Fl × Env)} {Wo : WX} (hmg : c.mg = mg) (ht : ∀ p ∈ tab, ∃ C, mg p.1 = some (.ref C) ∧ t.ans c.K (.ref C) = some p.2) (hbs : c.bs.contains i = false) (S2 : bp.map (·.1) = c.bs ∧ c.J F bp)
    (h : okS c F Hk bp D (hand1 i tab mh e rest ρ1)) {Hk' H' : Hp} {σ' : L2.St} {cls : Value} {d : Option Addr} (x : Ex Hk Hk') (S1 : RS c.K F Hk' H' bp σ' ρ1) (er : ExR c.K c.mg Hk' e cls d)
    (hr : okS c F Hk bp D rest → Wo cls d σ' H') :
    wAsT c.K t i (fun a cls d D σ H => ∃ e C, mg e.cls = some (.ref C) ∧ cls = .ref C ∧ (e.cls, true) ∈ tab ∧ rdS (cH c i a e d) (mh e) D σ H) Wo D cls d σ' H' := by
  unfold hand1 at h
  obtain ⟨C, g1, g2, g3⟩ := er
  subst g2
  have g1' : mg e.cls = some (.ref C) := by rw [← hmg]; exact g1
  cases el : tab.lookup e.cls with
  | none => simp only [el] at h; exact h.elim
  | some b =>
    obtain ⟨C', k1, k3⟩ := ht _ (lookup_mem el)
    rw [g1'] at k1
    cases k1
    refine ⟨b, k3, fun hyes a ha => ?_, fun hno => ?_⟩
    · subst hyes
      simp only [el] at h
      split at h
      · rename_i hc
        simp only [Bool.and_eq_true, decide_eq_true_eq] at hc
        refine ⟨e, C, g1', rfl, lookup_mem el, ?_⟩
        have hbq : ∀ q ∈ bp, q.1 ≠ i := nb S2.1 hbs
        have main : ∃ F2 Hk2, RS c.K F2 Hk2 H' ((i, a) :: bp) (σ'.set i (some (.ref a))) (ρ1.set i none) ∧ Ex F F2 ∧ XIn F2 e d ∧ ∀ Hk3 H3 bq σ3 ρ3, Ex Hk2 Hk3 → RS c.K F2 Hk3 H3 bq σ3 ρ3 → ∃ Hk4, Ex Hk' Hk4 ∧ RS c.K F Hk4 H3 bq σ3 ρ3 ∧ Ex Hk3 Hk4 := by
          rcases g3 with g3 | ⟨dx, vfs, q1, q2, q3⟩
          · exact ⟨F, Hk', S1.hold hc.1 hbq, Ex.refl _, .inl g3, fun Hk3 H3 bq σ3 ρ3 x3 S3 => ⟨Hk3, x3, S3, Ex.refl _⟩⟩
          · have fn : F dx = none := by
              cases e0 : F dx with
              | none => rfl
              | some o => have := S1.frk dx o e0; rw [q2] at this; cases this
            refine ⟨_, _, (S1.hold hc.1 hbq).aside q2, Ex.new fn, .inr ⟨dx, vfs, q1, upd_same, fun K H => q3.flat hc.2⟩, fun Hk3 H3 bq σ3 ρ3 x3 S3 => ⟨_, fun b o hb => ?_, S3.back_in fn, Ex.new (S3.frk dx _ upd_same)⟩⟩
            by_cases e0 : b = dx
            · subst e0; rw [q2] at hb; cases hb; exact upd_same
            · rw [upd_ne e0]
              exact x3 _ _ (by rw [del_ne e0]; exact hb)
        obtain ⟨F2, Hk2, S2', xF, xi, out⟩ := main
        refine ⟨F2, Hk2, (i, a) :: bp, _, ⟨S2', ?_, ⟨bp, rfl, c.Jm _ _ _ xF S2.2⟩, xi⟩, ?_⟩
        · show i :: bp.map (·.1) = i :: c.bs
          rw [S2.1]
        cases eh : mh e (ρ1.set i none) with
        | stuck => rw [eh] at h; exact h.elim
        | exc e2 ρ2 => rw [eh] at h; exact h.elim
        | ok r =>
          obtain ⟨f, ρ2⟩ := r
          rw [eh] at h
          cases f with
          | nx =>
            intro Hk3 H3 σ3 x3 S3
            obtain ⟨Hk4, x4, S4, _⟩ := out Hk3 H3 _ _ _ x3 S3
            exact h Hk4 H3 _ (x.trans x4) (S4.unhold hbq)
          | br =>
            intro Hk3 H3 σ3 x3 S3
            obtain ⟨Hk4, x4, S4, _⟩ := out Hk3 H3 _ _ _ x3 S3
            exact h Hk4 H3 _ (x.trans x4) (S4.unhold hbq)
          | ct =>
            intro Hk3 H3 σ3 x3 S3
            obtain ⟨Hk4, x4, S4, _⟩ := out Hk3 H3 _ _ _ x3 S3
            exact h Hk4 H3 _ (x.trans x4) (S4.unhold hbq)
          | rt v =>
            intro Hk3 H3 σ3 w x3 hq S3
            obtain ⟨Hk4, x4, S4, _⟩ := out Hk3 H3 _ _ _ x3 S3
            exact h Hk4 H3 _ w (x.trans x4) (fun q hq' => hq q (List.mem_cons_of_mem _ hq')) S4.less
      · exact h.elim
    · subst hno
      simp only [el] at h
      exact hr h
end
structure ExT2 (K : PySem.W.Frag) (mg : Str → Option Value) (y1 y2 : Str) (x : Str) (b : Bool) : Prop where
  ex : ∃ C D1 D2, mg x = some (.ref C) ∧ mg y1 = some (.ref D1) ∧ mg y2 = some (.ref D2) ∧ PySem.W.exmAny K (.ref C) [.ref D1, .ref D2] = some b
theorem ext2 {K : PySem.W.Frag} {mg : Str → Option Value} {y1 y2 x : Str} {b1 b2 : Bool} (h1 : ExT K mg y1 x b1) (h2 : ExT K mg y2 x b2) : ExT2 K mg y1 y2 x (b1 || (b2 || false)) := by
  obtain ⟨C, D1, e1, e2, e3⟩ := h1.ex
  obtain ⟨C', D2, e1', e4, e5⟩ := h2.ex
  rw [e1] at e1'
  cases e1'
  refine ⟨C, D1, D2, e1, e2, e4, ?_⟩
  unfold PySem.W.exmAny PySem.W.exmAny PySem.W.exmAny
  rw [e3, e5]
inductive HdMT (X : Cx) (c : Ct) (i : Nat) (n : Str) : List ExceptHandler → List (List (Str × Bool) × (MX → MS)) → Prop
  | nil : HdMT X c i n [] []
  | cons {y : Str} {b₀ : Stmt} {suite : List Stmt} {np p : Pos} {hds : List ExceptHandler} {tab : List (Str × Bool)} {mh : MX → MS} {l : List (List (Str × Bool) × (MX → MS))} (hg : Gl X y) (ht : ∀ p ∈ tab, ExT X.K X.mg y p.1 p.2) (hne : ∃ D, X.mg y = some (.ref D))
      (hsu : ∀ (a : Addr) (oe : Obj) (C : Addr) (d : Option Addr) (pn : List (Addr × Obj)) (e : MX), X.mg e.cls = some (.ref C) → (e.cls, true) ∈ tab → L2N.Zn (.ref C) d oe → (∃ vs, oe.data = .fields vs) → PSs (X.suite a ((a, oe) :: pn)) (b₀ :: suite) (rdS (cH c i a e d) (mh e)))
      (hdb : (y == ("__debug__" : Str)) = false) (r : HdMT X c i n hds l) :
      HdMT X c i n (.ExceptHandler (some (.Name y np)) (some n) (b₀ :: suite) p :: hds) ((tab, mh) :: l)
  | two {y1 y2 : Str} {b₀ : Stmt} {suite : List Stmt} {p1 p2 tp p : Pos} {k : Nat} {hds : List ExceptHandler} {tab : List (Str × Bool)} {mh : MX → MS} {l : List (List (Str × Bool) × (MX → MS))} (hg1 : Gl X y1) (hg2 : Gl X y2) (ht : ∀ p ∈ tab, ExT2 X.K X.mg y1 y2 p.1 p.2) (hne1 : ∃ D, X.mg y1 = some (.ref D)) (hne2 : ∃ D, X.mg y2 = some (.ref D))
      (hsu : ∀ (a : Addr) (oe : Obj) (C : Addr) (d : Option Addr) (pn : List (Addr × Obj)) (e : MX), X.mg e.cls = some (.ref C) → (e.cls, true) ∈ tab → L2N.Zn (.ref C) d oe → (∃ vs, oe.data = .fields vs) → PSs (X.suite a ((a, oe) :: pn)) (b₀ :: suite) (rdS (cH c i a e d) (mh e)))
      (hdb1 : (y1 == ("__debug__" : Str)) = false) (hdb2 : (y2 == ("__debug__" : Str)) = false) (r : HdMT X c i n hds l) :
      HdMT X c i n (.ExceptHandler (some (.Tuple [.Name y1 p1, .Name y2 p2] k tp)) (some n) (b₀ :: suite) p :: hds) ((tab, mh) :: l)
section
variable {X : Cx} {c : Ct} {n : Str} {i : Nat} {body : List Stmt} {h₀ : ExceptHandler} {hds : List ExceptHandler} {pos : Pos} {mb : MS} {cs : List (List (Str × Bool) × (MX → MS))}
theorem HdMT.each (hK : c.K = X.K) (hmg : c.mg = X.mg) (hbs : c.bs.contains i = false) {hds : List ExceptHandler} {cs : List (List (Str × Bool) × (MX → MS))} (h : HdMT X c i n hds cs) :
    ∃ l, HdT X n hds l ∧ ∀ {F Hk : Hp} {bp : List (Nat × Addr)} {D : Ends} {e : MX} {ρ1 : Env}, (bp.map (·.1) = c.bs ∧ c.J F bp) → okS c F Hk bp D (handN i e ρ1 cs) →
      ∀ {Hk' H' : Hp} {σ' : L2.St} {cls : Value} {d : Option Addr}, Ex Hk Hk' → RS c.K F Hk' H' bp σ' ρ1 → ExR c.K c.mg Hk' e cls d → wEachT c.K i c.W D l cls d σ' H' := by
  induction h with
  | nil => exact ⟨[], .nil, by intro F Hk bp D e ρ1 S2 h Hk' H' σ' cls d x S1 er; exact h Hk' H' σ' cls d x S1 er⟩
  | @cons y b₀ suite np p hds tab mh l hg ht hne hsu hdb r ih =>
    obtain ⟨l', e1, e2⟩ := ih
    obtain ⟨Dy, hDy⟩ := hne
    have ht' : ∀ p ∈ tab, ∃ C, X.mg p.1 = some (.ref C) ∧ (Tst.one (.ref Dy)).ans c.K (.ref C) = some p.2 := fun p hp => by
      obtain ⟨C, D, k1, k2, k3⟩ := (ht p hp).ex
      rw [hDy] at k2
      cases k2
      exact ⟨C, k1, by rw [hK]; exact k3⟩
    refine ⟨((.one (.ref Dy)), fun a cls d D σ H => ∃ e C, X.mg e.cls = some (.ref C) ∧ cls = .ref C ∧ (e.cls, true) ∈ tab ∧ rdS (cH c i a e d) (mh e) D σ H) :: l', .cons (.one ⟨hg, hdb, .inl hDy⟩) (fun a oe cls d pn hz hv => ⟨fun pins s σ H D I ⟨e, C, h1, h2, h3, h4⟩ => (hsu a oe C d pn e h1 h3 (by rw [← h2]; exact hz) hv).run pins s σ H D I h4⟩) e1, ?_⟩
    intro F Hk bp D e ρ1 S2 h Hk' H' σ' cls d x S1 er
    exact hand1_okT hmg ht' hbs S2 h x S1 er fun hr => e2 S2 hr x S1 er
  | @two y1 y2 b₀ suite p1 p2 tp p k hds tab mh l hg1 hg2 ht hne1 hne2 hsu hdb1 hdb2 r ih =>
    obtain ⟨l', e1, e2⟩ := ih
    obtain ⟨Dy, hDy⟩ := hne1
    obtain ⟨Dz, hDz⟩ := hne2
    have ht' : ∀ p ∈ tab, ∃ C, X.mg p.1 = some (.ref C) ∧ (Tst.two (.ref Dy) (.ref Dz)).ans c.K (.ref C) = some p.2 := fun p hp => by
      obtain ⟨C, D1, D2, k1, k2, k4, k3⟩ := (ht p hp).ex
      rw [hDy] at k2
      cases k2
      rw [hDz] at k4
      cases k4
      exact ⟨C, k1, by rw [hK]; exact k3⟩
    refine ⟨((.two (.ref Dy) (.ref Dz)), fun a cls d D σ H => ∃ e C, X.mg e.cls = some (.ref C) ∧ cls = .ref C ∧ (e.cls, true) ∈ tab ∧ rdS (cH c i a e d) (mh e) D σ H) :: l', .cons (.two ⟨hg1, hdb1, .inl hDy⟩ ⟨hg2, hdb2, .inl hDz⟩) (fun a oe cls d pn hz hv => ⟨fun pins s σ H D I ⟨e, C, h1, h2, h3, h4⟩ => (hsu a oe C d pn e h1 h3 (by rw [← h2]; exact hz) hv).run pins s σ H D I h4⟩) e1, ?_⟩
    intro F Hk bp D e ρ1 S2 h Hk' H' σ' cls d x S1 er
    exact hand1_okT hmg ht' hbs S2 h x S1 er fun hr => e2 S2 hr x S1 er
theorem ms_tryT (hs : X.stack = X.env :: X.outer) (hf : X.env.frame = some X.env.locals) (hN : X.N.Nodup) (hi : X.N[i]? = some n) (hln : X.env.kindOf n = some .local) (tk : L2N.Takes X c.W)
    (hb : ∀ (W : WX) (pn : List (Addr × Obj)) (xe : Value → Shared → Prop), L2N.Takes (X.tr pn xe) W → PassesOwn (model X.prog X.w) X.A X.env xe → PSs (X.tr pn xe) body (rdS ⟨c.K, c.mg, W, c.bs, c.J, c.Jm⟩ mb))
    (hh : HdMT X c i n (h₀ :: hds) cs) (hbs : c.bs.contains i = false := by rfl) (hK : c.K = X.K := by rfl) (hmg : c.mg = X.mg := by rfl) :
    PS X (.Try body (h₀ :: hds) [] [] pos) (rdS c (mTryN i cs mb)) := by
  obtain ⟨l, e1, e2⟩ := hh.each hK hmg hbs
  refine PSw (ps_try_eachT (tb := fun W => rdS ⟨c.K, c.mg, W, c.bs, c.J, c.Jm⟩ mb) hs hf hN hi hln tk hb e1) fun D σ H h => ?_
  obtain ⟨F, Hk, bp, ρ, S, h⟩ := h
  refine ⟨F, Hk, bp, ρ, S, ?_⟩
  unfold mTryN at h
  cases em : mb ρ with
  | stuck => rw [em] at h; exact h
  | ok r =>
    rw [em] at h
    obtain ⟨f, ρ'⟩ := r
    cases f <;> exact h
  | exc e ρ1 =>
    rw [em] at h
    intro Hk' H' σ' cls d x S1 er
    rw [← hK]
    exact e2 S.2 h x S1 er
end
end Tm
set_option Elab.async false
set_option linter.all false
set_option maxRecDepth 100000
set_option maxHeartbeats 4000000
namespace Tm
open PySem L2
def fnNames : List Str := ["ahead_of_last", "all_or_none", "fill", "five_on", "half_up", "high_half", "lacking", "last_figure", "low_half", "lowest_two", "nine_less", "none_or_all", "not_all", "one_of_none", "one_of_two", "one_or_none", "order_byte", "other_twos", "product_byte", "sign_below", "six_on", "ten_high", "ten_low", "ten_or_none", "top_two"]
def m_lmixed : MS := mSeq (mAsg (mLst (mCons (mC (.int 2147483629)) (mCons (mC (.int 2147483587)) (mCons (mC (.int 2147483579)) (mCons (mC (.int 2147483563)) (mCons (mC (.int 2147483549)) (mCons (mC (.int 2147483543)) (mCons (mC (.int 2147483497)) (mCons (mC (.int 2147483489)) (mNil)))))))))) (gSet 3)) (mSeq (mAsg (mOp fMod (mOp fAdd (mOp fAdd (mOp fAdd (mVar 0) (mOp fMul (mC (.int 7919)) (mVar 2))) (mOp fMul (mC (.int 104729)) (mVar 1))) (mC (.int 13))) (mC (.int 2147483647))) (gSet 4)) (mSeq (mAsg (mOp fMod (mOp fPow (mVar 4) (mC (.int 5))) (mOp fIx (mVar 3) (mOp fMod (mVar 1) (mC (.int 8))))) (gSet 4)) (mSeq (mAsg (mOp fMod (mOp fAdd (mOp fAdd (mVar 4) (mOp fMul (mC (.int 40692)) (mVar 2))) (mVar 1)) (mC (.int 2147483647))) (gSet 5)) (mRet (mOp fAdd (mOp fMul (mOp fMod (mOp fPow (mVar 5) (mC (.int 5))) (mC (.int 2147483647))) (mC (.int 1000000007))) (mVar 4))))))
def f_lmixed : MF := mFn 6 [] m_lmixed
def b_ldraws_0 : MS := mIfS (mTest (mOp fGt (mVar 4) (mC (.int 0)))) (mSeq (mDrop (mLm lmAppend 3 (mCons (mOp fMod (mVar 4) (mOp fIx (mVar 2) (mVar 5))) (mNil)))) (mAsg (mOp fDiv (mVar 4) (mOp fIx (mVar 2) (mVar 5))) (gSet 4))) (mDrop (mLm lmAppend 3 (mCons (mOp fMod (mFz (mCall f_lmixed (mCons (mVar 0) (mCons (mVar 5) (mCons (mVar 1) (mNil)))))) (mOp fIx (mVar 2) (mVar 5))) (mNil))))
def m_ldraws : MS := mSeq (mSetO 3 (mLstO (mNil))) (mSeq (mAsg (mC (.int 0)) (gSet 4)) (mSeq (mIfS (mTest (mOp fGe (mBlt bAbs (mCons (mVar 0) (mNil))) (mOp fPow (mC (.int 10)) (mC (.int 18))))) (mAsg (mBlt bAbs (mCons (mVar 0) (mNil))) (gSet 4)) (mPass)) (mSeq (mFor (mR1 (mCons (mBlt bLen (mCons (mVar 2) (mNil))) (mNil))) (gSet 5) (b_ldraws_0)) (mRet (mMove 3)))))
def f_ldraws : MF := mFn 6 [] m_ldraws
def m_lcell : MS := mSeq (mIfS (mTest (mOp fLt (mVar 1) (mBlt bLen (mCons (mVar 0) (mNil))))) (mRet (mOp fIx (mVar 0) (mVar 1))) (mPass)) (mSeq (mIfS (mTest (mOp fEq (mBlt bLen (mCons (mVar 0) (mNil))) (mC (.int 0)))) (mRet (mOp fMul (mC (.int 7919)) (mOp fAdd (mVar 1) (mC (.int 1))))) (mPass)) (mRet (mOp fAdd (mOp fIx (mVar 0) (mOp fMod (mVar 1) (mBlt bLen (mCons (mVar 0) (mNil))))) (mOp fMul (mC (.int 104729)) (mVar 1)))))
def f_lcell : MF := mFn 2 [] m_lcell
def b_lpower_0 : MS := mAsg (mOp fMul (mVar 2) (mVar 0)) (gSet 2)
def m_lpower : MS := mSeq (mAsg (mC (.int 1)) (gSet 2)) (mSeq (mFor (mR1 (mCons (mVar 1) (mNil))) (gSet 3) (b_lpower_0)) (mRet (mVar 2)))
def f_lpower : MF := mFn 4 [] m_lpower
def b_ppower_0 : MS := mAsg (mOp fMul (mVar 2) (mVar 0)) (gSet 2)
def m_ppower : MS := mSeq (mAsg (mC (.int 1)) (gSet 2)) (mSeq (mFor (mR1 (mCons (mVar 1) (mNil))) (gSet 3) (b_ppower_0)) (mRet (mVar 2)))
def f_ppower : MF := mFn 4 [] m_ppower
def b_pfigures_of_0 : MS := mSeq (mDrop (mLm lmAppend 2 (mCons (mOp fMod (mVar 0) (mC (.int 10))) (mNil)))) (mAsg (mOp fDiv (mVar 0) (mC (.int 10))) (gSet 0))
def m_pfigures_of : MS := mSeq (mSetO 2 (mLstO (mNil))) (mSeq (mFor (mR1 (mCons (mVar 1) (mNil))) (gSet 3) (b_pfigures_of_0)) (mRet (mRevA (mVar 2))))
def f_pfigures_of : MF := mFn 4 [] m_pfigures_of
def b_pnumber_by_0 : MS := mAsg (mOp fAdd (mOp fMul (mVar 2) (mVar 0)) (mVar 3)) (gSet 2)
def m_pnumber_by : MS := mSeq (mAsg (mC (.int 0)) (gSet 2)) (mSeq (mFor (mItV (mVar 1)) (gSet 3) (b_pnumber_by_0)) (mRet (mVar 2)))
def f_pnumber_by : MF := mFn 4 [] m_pnumber_by
def m_lsorts (ex : MX) : MS := mSeq (mAsg (mLst (mCons (mTup (mCons (mC (.str "NoShape")) (mCons (mExIs ex [("BadLine", false), ("NoDeed", false), ("NoFit", false), ("NoLine", false), ("NoName", false), ("NoRow", false), ("NoRule", false), ("NoShape", true), ("NoTable", false), ("NoText", false), ("NothingDone", false), ("Nought", false), ("TooLong", false), ("Unlike", false), ("Wrong", false)]) (mNil)))) (mCons (mTup (mCons (mC (.str "NoFit")) (mCons (mExIs ex [("BadLine", false), ("NoDeed", false), ("NoFit", true), ("NoLine", false), ("NoName", false), ("NoRow", false), ("NoRule", false), ("NoShape", false), ("NoTable", false), ("NoText", false), ("NothingDone", false), ("Nought", false), ("TooLong", false), ("Unlike", false), ("Wrong", false)]) (mNil)))) (mCons (mTup (mCons (mC (.str "Wrong")) (mCons (mExIs ex [("BadLine", false), ("NoDeed", false), ("NoFit", false), ("NoLine", false), ("NoName", false), ("NoRow", false), ("NoRule", false), ("NoShape", false), ("NoTable", false), ("NoText", false), ("NothingDone", false), ("Nought", false), ("TooLong", false), ("Unlike", false), ("Wrong", true)]) (mNil)))) (mNil))))) (gSet 1)) (mSeq (mAsg (mOp fAdd (mVar 1) (mLst (mCons (mTup (mCons (mC (.str "NoTable")) (mCons (mExIs ex [("BadLine", false), ("NoDeed", false), ("NoFit", false), ("NoLine", false), ("NoName", false), ("NoRow", false), ("NoRule", false), ("NoShape", false), ("NoTable", true), ("NoText", false), ("NothingDone", false), ("Nought", false), ("TooLong", false), ("Unlike", false), ("Wrong", false)]) (mNil)))) (mCons (mTup (mCons (mC (.str "NoRow")) (mCons (mExIs ex [("BadLine", false), ("NoDeed", false), ("NoFit", false), ("NoLine", false), ("NoName", false), ("NoRow", true), ("NoRule", false), ("NoShape", false), ("NoTable", false), ("NoText", false), ("NothingDone", false), ("Nought", false), ("TooLong", false), ("Unlike", false), ("Wrong", false)]) (mNil)))) (mNil))))) (gSet 1)) (mSeq (mAsg (mOp fAdd (mVar 1) (mLst (mCons (mTup (mCons (mC (.str "BadLine")) (mCons (mExIs ex [("BadLine", true), ("NoDeed", false), ("NoFit", false), ("NoLine", false), ("NoName", false), ("NoRow", false), ("NoRule", false), ("NoShape", false), ("NoTable", false), ("NoText", false), ("NothingDone", false), ("Nought", false), ("TooLong", false), ("Unlike", false), ("Wrong", false)]) (mNil)))) (mCons (mTup (mCons (mC (.str "TooLong")) (mCons (mExIs ex [("BadLine", false), ("NoDeed", false), ("NoFit", false), ("NoLine", false), ("NoName", false), ("NoRow", false), ("NoRule", false), ("NoShape", false), ("NoTable", false), ("NoText", false), ("NothingDone", false), ("Nought", false), ("TooLong", true), ("Unlike", false), ("Wrong", false)]) (mNil)))) (mNil))))) (gSet 1)) (mSeq (mAsg (mOp fAdd (mVar 1) (mLst (mCons (mTup (mCons (mC (.str "NoRule")) (mCons (mExIs ex [("BadLine", false), ("NoDeed", false), ("NoFit", false), ("NoLine", false), ("NoName", false), ("NoRow", false), ("NoRule", true), ("NoShape", false), ("NoTable", false), ("NoText", false), ("NothingDone", false), ("Nought", false), ("TooLong", false), ("Unlike", false), ("Wrong", false)]) (mNil)))) (mCons (mTup (mCons (mC (.str "NoDeed")) (mCons (mExIs ex [("BadLine", false), ("NoDeed", true), ("NoFit", false), ("NoLine", false), ("NoName", false), ("NoRow", false), ("NoRule", false), ("NoShape", false), ("NoTable", false), ("NoText", false), ("NothingDone", false), ("Nought", false), ("TooLong", false), ("Unlike", false), ("Wrong", false)]) (mNil)))) (mNil))))) (gSet 1)) (mSeq (mAsg (mOp fAdd (mVar 1) (mLst (mCons (mTup (mCons (mC (.str "NoName")) (mCons (mExIs ex [("BadLine", false), ("NoDeed", false), ("NoFit", false), ("NoLine", false), ("NoName", true), ("NoRow", false), ("NoRule", false), ("NoShape", false), ("NoTable", false), ("NoText", false), ("NothingDone", false), ("Nought", false), ("TooLong", false), ("Unlike", false), ("Wrong", false)]) (mNil)))) (mCons (mTup (mCons (mC (.str "NoText")) (mCons (mExIs ex [("BadLine", false), ("NoDeed", false), ("NoFit", false), ("NoLine", false), ("NoName", false), ("NoRow", false), ("NoRule", false), ("NoShape", false), ("NoTable", false), ("NoText", true), ("NothingDone", false), ("Nought", false), ("TooLong", false), ("Unlike", false), ("Wrong", false)]) (mNil)))) (mNil))))) (gSet 1)) (mSeq (mAsg (mOp fAdd (mVar 1) (mLst (mCons (mTup (mCons (mC (.str "Nought")) (mCons (mExIs ex [("BadLine", false), ("NoDeed", false), ("NoFit", false), ("NoLine", false), ("NoName", false), ("NoRow", false), ("NoRule", false), ("NoShape", false), ("NoTable", false), ("NoText", false), ("NothingDone", false), ("Nought", true), ("TooLong", false), ("Unlike", false), ("Wrong", false)]) (mNil)))) (mCons (mTup (mCons (mC (.str "Unlike")) (mCons (mExIs ex [("BadLine", false), ("NoDeed", false), ("NoFit", false), ("NoLine", false), ("NoName", false), ("NoRow", false), ("NoRule", false), ("NoShape", false), ("NoTable", false), ("NoText", false), ("NothingDone", false), ("Nought", false), ("TooLong", false), ("Unlike", true), ("Wrong", false)]) (mNil)))) (mNil))))) (gSet 1)) (mSeq (mAsg (mOp fAdd (mVar 1) (mLst (mCons (mTup (mCons (mC (.str "NoLine")) (mCons (mExIs ex [("BadLine", false), ("NoDeed", false), ("NoFit", false), ("NoLine", true), ("NoName", false), ("NoRow", false), ("NoRule", false), ("NoShape", false), ("NoTable", false), ("NoText", false), ("NothingDone", false), ("Nought", false), ("TooLong", false), ("Unlike", false), ("Wrong", false)]) (mNil)))) (mCons (mTup (mCons (mC (.str "NothingDone")) (mCons (mExIs ex [("BadLine", false), ("NoDeed", false), ("NoFit", false), ("NoLine", false), ("NoName", false), ("NoRow", false), ("NoRule", false), ("NoShape", false), ("NoTable", false), ("NoText", false), ("NothingDone", true), ("Nought", false), ("TooLong", false), ("Unlike", false), ("Wrong", false)]) (mNil)))) (mNil))))) (gSet 1)) (mSeq (mAsg (mOp fAdd (mVar 1) (mLst (mCons (mTup (mCons (mC (.str "no LoftError")) (mCons (mBv (mNotT (mTest (mExIs ex [("BadLine", true), ("NoDeed", true), ("NoFit", true), ("NoLine", true), ("NoName", true), ("NoRow", true), ("NoRule", true), ("NoShape", true), ("NoTable", true), ("NoText", true), ("NothingDone", true), ("Nought", true), ("TooLong", true), ("Unlike", true), ("Wrong", true)])))) (mNil)))) (mCons (mTup (mCons (mC (.str "no ValueError")) (mCons (mBv (mNotT (mTest (mExIs ex [("BadLine", true), ("NoDeed", true), ("NoFit", true), ("NoLine", true), ("NoName", true), ("NoRow", true), ("NoRule", true), ("NoShape", true), ("NoTable", true), ("NoText", true), ("NothingDone", true), ("Nought", true), ("TooLong", true), ("Unlike", true), ("Wrong", true)])))) (mNil)))) (mNil))))) (gSet 1)) (mRet (mSm smJoin (mC (.str " ")) (mCons (mFz (mLcO (mItL (mVar 1)) (.tp [2, 3]) (mTest (mVar 3)) (mVar 2) [2, 3])) (mNil)))))))))))
def f_lsorts : MX → Res (MV × Env) := mFnE 4 m_lsorts
def m_pone_more : MS := mSeq (mIfS (mTest (mOp fEq (mVar 3) (mC (.str "up")))) (mRet (mOp fGt (mVar 1) (mC (.int 0)))) (mPass)) (mSeq (mIfS (mTest (mOp fEq (mVar 3) (mC (.str "half")))) (mRet (mOp fGe (mOp fMul (mC (.int 2)) (mVar 1)) (mVar 2))) (mPass)) (mSeq (mIfS (mTest (mOp fEq (mVar 3) (mC (.str "even")))) (mRet (mBv (mOrT (mTest (mOp fGt (mOp fMul (mC (.int 2)) (mVar 1)) (mVar 2))) (mTest (mBv (mAndT (mTest (mOp fEq (mOp fMul (mC (.int 2)) (mVar 1)) (mVar 2))) (mTest (mOp fEq (mOp fMod (mVar 0) (mC (.int 2))) (mC (.int 1)))))))))) (mPass)) (mSeq (mIfS (mTest (mOp fEq (mVar 3) (mC (.str "floor")))) (mRet (mBv (mAndT (mTest (mOp fGt (mVar 1) (mC (.int 0)))) (mTest (mVar 4))))) (mPass)) (mRet (mBv (mAndT (mTest (mOp fEq (mVar 3) (mC (.str "ceil")))) (mAndT (mTest (mOp fGt (mVar 1) (mC (.int 0)))) (mTest (mBv (mNotT (mTest (mVar 4))))))))))))
def f_pone_more : MF := mFn 5 [] m_pone_more
def m_prounded : MS := mSeq (mIfS (mTest (mOp fNotIn (mVar 2) (mC (.tup [(.str "cut"), (.str "up"), (.str "half"), (.str "even"), (.str "floor"), (.str "ceil")])))) (mRaise1 "NoRule" "rule" (mVar 2)) (mPass)) (mSeq (mIfS (mTest (mOp fGe (mVar 1) (mC (.int 0)))) (mRet (mOp fMul (mVar 0) (mFz (mCall f_ppower (mCons (mC (.int 10)) (mCons (mVar 1) (mNil))))))) (mPass)) (mSeq (mAsg (mFz (mCall f_ppower (mCons (mC (.int 10)) (mCons (mUn fNeg (mVar 1)) (mNil))))) (gSet 3)) (mSeq (mAsg (mOp fDiv (mBlt bAbs (mCons (mVar 0) (mNil))) (mVar 3)) (gSet 4)) (mSeq (mAsg (mOp fAdd (mVar 4) (mBlt bInt (mCons (mFz (mCall f_pone_more (mCons (mVar 4) (mCons (mOp fMod (mBlt bAbs (mCons (mVar 0) (mNil))) (mVar 3)) (mCons (mVar 3) (mCons (mVar 2) (mCons (mOp fLt (mVar 0) (mC (.int 0))) (mNil)))))))) (mNil)))) (gSet 4)) (mSeq (mIfS (mTest (mOp fLt (mVar 0) (mC (.int 0)))) (mRet (mUn fNeg (mVar 4))) (mPass)) (mRet (mVar 4)))))))
def f_prounded : MF := mFn 5 [] m_prounded
def m_ljust (self : MF) : MS := mSeq (mIfS (mTest (mBlt bIsi (mCons (mVar 1) (mCons (mC (.raw (.ty "tuple"))) mNil)))) (mSeq (mIfS (mOrT (mNotT (mTest (mBlt bIsi (mCons (mVar 0) (mCons (mC (.raw (.ty "tuple"))) mNil))))) (mTest (mOp fNe (mBlt bLen (mCons (mVar 0) (mNil))) (mBlt bLen (mCons (mVar 1) (mNil)))))) (mRet (mC (.bl false))) (mPass)) (mRet (mBlt bAll (mCons (mFz (mLcO (mZip (mCons (mVar 0) (mCons (mVar 1) (mNil)))) (.tp [2, 3]) (mYes) (mFz (mCall0 self (mCons (mVar 2) (mCons (mVar 3) (mNil))))) [2, 3])) (mNil))))) (mPass)) (mSeq (mIfS (mOrT (mTest (mBlt bIsi (mCons (mVar 1) (mCons (mC (.raw (.ty "str"))) mNil)))) (mTest (mOp fIsN (mVar 1) (mC .non)))) (mRet (mBv (mAndT (mTest (mOp fEq (mBlt bIsi (mCons (mVar 0) (mCons (mC (.raw (.ty "str"))) mNil))) (mBlt bIsi (mCons (mVar 1) (mCons (mC (.raw (.ty "str"))) mNil))))) (mTest (mOp fEq (mVar 0) (mVar 1)))))) (mPass)) (mSeq (mIfS (mOrT (mNotT (mTest (mBlt bIsi (mCons (mVar 0) (mCons (mC (.raw (.ty "int"))) mNil))))) (mTest (mOp fNe (mBlt bIsi (mCons (mVar 0) (mCons (mC (.raw (.ty "bool"))) mNil))) (mBlt bIsi (mCons (mVar 1) (mCons (mC (.raw (.ty "bool"))) mNil)))))) (mRet (mC (.bl false))) (mPass)) (mRet (mOp fEq (mVar 0) (mVar 1)))))
def f_ljust : MF := mRec 4 [] m_ljust 8
def m_pis_just (self : MF) : MS := mSeq (mIfS (mTest (mBlt bIsi (mCons (mVar 1) (mCons (mC (.raw (.ty "tuple"))) mNil)))) (mSeq (mIfS (mOrT (mNotT (mTest (mBlt bIsi (mCons (mVar 0) (mCons (mC (.raw (.ty "tuple"))) mNil))))) (mTest (mOp fNe (mBlt bLen (mCons (mVar 0) (mNil))) (mBlt bLen (mCons (mVar 1) (mNil)))))) (mRet (mC (.bl false))) (mPass)) (mRet (mBlt bAll (mCons (mFz (mLcO (mZip (mCons (mVar 0) (mCons (mVar 1) (mNil)))) (.tp [2, 3]) (mYes) (mFz (mCall0 self (mCons (mVar 2) (mCons (mVar 3) (mNil))))) [2, 3])) (mNil))))) (mPass)) (mSeq (mIfS (mTest (mBlt bIsi (mCons (mVar 1) (mCons (mC (.raw (.ty "str"))) mNil)))) (mRet (mBv (mAndT (mTest (mBlt bIsi (mCons (mVar 0) (mCons (mC (.raw (.ty "str"))) mNil)))) (mTest (mOp fEq (mVar 0) (mVar 1)))))) (mPass)) (mSeq (mIfS (mOrT (mNotT (mTest (mBlt bIsi (mCons (mVar 0) (mCons (mC (.raw (.ty "int"))) mNil))))) (mTest (mOp fNe (mBlt bIsi (mCons (mVar 0) (mCons (mC (.raw (.ty "bool"))) mNil))) (mBlt bIsi (mCons (mVar 1) (mCons (mC (.raw (.ty "bool"))) mNil)))))) (mRet (mC (.bl false))) (mPass)) (mRet (mOp fEq (mVar 0) (mVar 1)))))
def f_pis_just : MF := mRec 4 [] m_pis_just 8
def m_pwhy_of : MS := mSeq (mIfS (mTest (mOp fLt (mVar 0) (mC (.int 10)))) (mRet (mC (.str "none"))) (mPass)) (mSeq (mIfS (mTest (mOp fLt (mVar 0) (mC (.int 16)))) (mRet (mC (.str "nine"))) (mPass)) (mRet (mC (.str "carry"))))
def f_pwhy_of : MF := mFn 1 [] m_pwhy_of
def b_psum_lines_0 : MS := mSeq (mAsg (mOp fAdd (mOp fAdd (mVar 4) (mVar 5)) (mVar 3)) (gSet 6)) (mSeq (mAsg (mOp fDiv (mVar 6) (mC (.int 10))) (gSet 7)) (mSeq (mDrop (mLm lmAppend 2 (mCons (mTup (mCons (mVar 4) (mCons (mVar 5) (mCons (mVar 3) (mCons (mVar 6) (mCons (mFz (mCall f_pwhy_of (mCons (mVar 6) (mNil)))) (mCons (mOp fMod (mVar 6) (mC (.int 10))) (mCons (mVar 7) (mNil))))))))) (mNil)))) (mAsg (mVar 7) (gSet 3))))
def m_psum_lines : MS := mSeq (mSetO 2 (mLstO (mNil))) (mSeq (mAsg (mC (.int 0)) (gSet 3)) (mSeq (mFor (mZip (mCons (mRevA (mVar 0)) (mCons (mRevA (mVar 1)) (mNil)))) (gTp 2 (gsCons (gSet 4) (gsCons (gSet 5) (gsNil)))) (b_psum_lines_0)) (mRet (mBlt bTuple (mCons (mVar 2) (mNil))))))
def f_psum_lines : MF := mFn 8 [] m_psum_lines
def b_psixes_0 : MS := mIfS (mNotT (mTest (mChain fLe fLt (mC (.int 0)) (mVar 3) (mFz (mCall f_ppower (mCons (mC (.int 10)) (mCons (mVar 0) (mNil)))))))) (mRaise1 "NoFit" "number" (mVar 3)) (mPass)
def m_psixes : MS := mSeq (mIfS (mNotT (mTest (mChain fLe fLe (mC (.int 1)) (mVar 0) (mC (.int 12))))) (mRaise1 "TooLong" "number" (mVar 0)) (mPass)) (mSeq (mFor (mItV (mTup (mCons (mVar 1) (mCons (mVar 2) (mNil))))) (gSet 3) (b_psixes_0)) (mSeq (mAsg (mFz (mCall f_pfigures_of (mCons (mVar 1) (mCons (mVar 0) (mNil))))) (gSet 4)) (mSeq (mAsg (mFz (mCall f_pfigures_of (mCons (mVar 2) (mCons (mVar 0) (mNil))))) (gSet 5)) (mSeq (mAsg (mFz (mCall f_psum_lines (mCons (mVar 4) (mCons (mVar 5) (mNil))))) (gSet 6)) (mSeq (mAsg (mFz (mCall f_pnumber_by (mCons (mC (.int 16)) (mCons (mFz (mLcO (mItV (mRevA (mVar 6))) (.nm 9) (mYes) (mOp fMul (mC (.int 6)) (mBlt bInt (mCons (mOp fNe (mOp fIx (mVar 9) (mC (.int 4))) (mC (.str "none"))) (mNil)))) [9])) (mNil))))) (gSet 7)) (mSeq (mAsg (mFz (mCall f_pnumber_by (mCons (mC (.int 16)) (mCons (mFz (mLcO (mItV (mRevA (mVar 6))) (.nm 9) (mYes) (mOp fIx (mVar 9) (mC (.int 5))) [9])) (mNil))))) (gSet 8)) (mRet (mTup (mCons (mOp fAdd (mFz (mCall f_pnumber_by (mCons (mC (.int 16)) (mCons (mVar 4) (mNil))))) (mFz (mCall f_pnumber_by (mCons (mC (.int 16)) (mCons (mVar 5) (mNil)))))) (mCons (mVar 7) (mCons (mVar 8) (mCons (mOp fIx (mOp fIx (mVar 6) (mUn fNeg (mC (.int 1)))) (mC (.int 6))) (mCons (mVar 6) (mNil))))))))))))))
def f_psixes : MF := mFn 10 [] m_psixes
def m_psixes_hold : MS := mRet (mFz (mCall f_pis_just (mCons (mVar 3) (mCons (mFz (mCall f_psixes (mCons (mVar 0) (mCons (mVar 1) (mCons (mVar 2) (mNil)))))) (mNil)))))
def f_psixes_hold : MF := mFn 4 [] m_psixes_hold
def b_ptried_0 : MS := mSeq (mAsg (mOp fMul (mVar 5) (mVar 1)) (gSet 6)) (mSeq (mDrop (mLm lmAppend 4 (mCons (mTup (mCons (mVar 5) (mCons (mVar 6) (mCons (mOp fLe (mVar 6) (mVar 2)) (mNil))))) (mNil)))) (mIfS (mTest (mOp fLe (mVar 6) (mVar 2))) (mSeq (mAug fSubI 2 (mVar 6)) (mAug fAddI 3 (mVar 5))) (mPass)))
def m_ptried : MS := mSeq (mAsg (mVar 0) (gSet 2)) (mSeq (mAsg (mC (.int 0)) (gSet 3)) (mSeq (mSetO 4 (mLstO (mNil))) (mSeq (mFor (mItV (mTup (mCons (mC (.int 8)) (mCons (mC (.int 4)) (mCons (mC (.int 2)) (mCons (mC (.int 1)) (mNil))))))) (gSet 5) (b_ptried_0)) (mRet (mTup (mCons (mVar 0) (mCons (mBlt bTuple (mCons (mVar 4) (mNil))) (mCons (mVar 3) (mCons (mVar 2) (mNil))))))))))
def f_ptried : MF := mFn 7 [] m_ptried
def b_ptries_0 : MS := mSeq (mAsg (mFz (mCall f_ptried (mCons (mOp fAdd (mOp fMul (mC (.int 10)) (mVar 3)) (mVar 4)) (mCons (mVar 1) (mNil))))) (gSet 5)) (mSeq (mDrop (mLm lmAppend 2 (mCons (mVar 5) (mNil)))) (mAsg (mOp fIx (mVar 5) (mC (.int 3))) (gSet 3)))
def m_ptries : MS := mSeq (mIfS (mTest (mOp fEq (mVar 1) (mC (.int 0)))) (mRaise0 "Nought") (mPass)) (mSeq (mIfS (mNotT (mTest (mChain fLe fLt (mC (.int 0)) (mVar 0) (mC (.int 1000000000000))))) (mRaise1 "NoFit" "number" (mVar 0)) (mPass)) (mSeq (mIfS (mNotT (mTest (mChain fLt fLt (mC (.int 0)) (mVar 1) (mC (.int 1000000000000))))) (mRaise1 "NoFit" "number" (mVar 1)) (mPass)) (mSeq (mSetO 2 (mLstO (mNil))) (mSeq (mAsg (mC (.int 0)) (gSet 3)) (mSeq (mFor (mItV (mFz (mCall f_pfigures_of (mCons (mVar 0) (mCons (mBlt bLen (mCons (mBlt bStr (mCons (mVar 0) (mNil))) (mNil))) (mNil)))))) (gSet 4) (b_ptries_0)) (mRet (mBlt bTuple (mCons (mVar 2) (mNil)))))))))
def f_ptries : MF := mFn 6 [] m_ptries
def m_ptries_hold : MS := mRet (mFz (mCall f_pis_just (mCons (mVar 2) (mCons (mFz (mCall f_ptries (mCons (mVar 0) (mCons (mVar 1) (mNil))))) (mNil)))))
def f_ptries_hold : MF := mFn 3 [] m_ptries_hold
def m_prounding : MS := mSeq (mIfS (mTest (mOp fNotIn (mVar 2) (mC (.tup [(.str "cut"), (.str "up"), (.str "half"), (.str "even"), (.str "floor"), (.str "ceil")])))) (mRaise1 "NoRule" "rule" (mVar 2)) (mPass)) (mSeq (mIfS (mNotT (mTest (mChain fLe fLe (mC (.int 1)) (mVar 1) (mC (.int 12))))) (mRaise1 "TooLong" "number" (mVar 1)) (mPass)) (mSeq (mIfS (mNotT (mTest (mChain fLt fLt (mOp fSub (mC (.int 0)) (mC (.int 1000000000000))) (mVar 0) (mC (.int 1000000000000))))) (mRaise1 "NoFit" "number" (mVar 0)) (mPass)) (mSeq (mAsg (mFz (mCall f_prounded (mCons (mVar 0) (mCons (mOp fSub (mC (.int 0)) (mVar 1)) (mCons (mVar 2) (mNil)))))) (gSet 3)) (mSeq (mAsg (mBlt bDivW (mCons (mBlt bAbs (mCons (mVar 0) (mNil))) (mCons (mFz (mCall f_ppower (mCons (mC (.int 10)) (mCons (mVar 1) (mNil))))) (mNil)))) (gTp 2 (gsCons (gSet 4) (gsCons (gSet 5) (gsNil))))) (mSeq (mAsg (mBlt bDivW (mCons (mVar 5) (mCons (mFz (mCall f_ppower (mCons (mC (.int 10)) (mCons (mOp fSub (mVar 1) (mC (.int 1))) (mNil))))) (mNil)))) (gTp 2 (gsCons (gSet 6) (gsCons (gSet 7) (gsNil))))) (mRet (mTup (mCons (mVar 4) (mCons (mVar 6) (mCons (mOp fGt (mVar 7) (mC (.int 0))) (mCons (mOp fEq (mOp fMod (mVar 4) (mC (.int 2))) (mC (.int 1))) (mCons (mOp fLt (mVar 0) (mC (.int 0))) (mCons (mOp fEq (mBlt bAbs (mCons (mVar 3) (mNil))) (mOp fAdd (mVar 4) (mC (.int 1)))) (mCons (mVar 3) (mNil)))))))))))))))
def f_prounding : MF := mFn 8 [] m_prounding
def m_prounding_holds : MS := mRet (mFz (mCall f_pis_just (mCons (mVar 3) (mCons (mFz (mCall f_prounding (mCons (mVar 0) (mCons (mVar 1) (mCons (mVar 2) (mNil)))))) (mNil)))))
def f_prounding_holds : MF := mFn 4 [] m_prounding_holds
def b_lrefused4_0 : MS := mIfS (mTest (mOp fEq (mVar 0) (mC (.int 0)))) (mDrop (mFz (mCall f_psixes (mCons (mOp fIx (mVar 1) (mC (.int 0))) (mCons (mOp fIx (mVar 1) (mC (.int 1))) (mCons (mOp fIx (mVar 1) (mC (.int 2))) (mNil))))))) (mIfS (mTest (mOp fEq (mVar 0) (mC (.int 1)))) (mDrop (mFz (mCall f_psixes_hold (mCons (mOp fIx (mVar 1) (mC (.int 0))) (mCons (mOp fIx (mVar 1) (mC (.int 1))) (mCons (mOp fIx (mVar 1) (mC (.int 2))) (mCons (mVar 3) (mNil)))))))) (mIfS (mTest (mOp fEq (mVar 0) (mC (.int 2)))) (mDrop (mFz (mCall f_ptries (mCons (mOp fIx (mVar 1) (mC (.int 0))) (mCons (mOp fIx (mVar 1) (mC (.int 1))) (mNil)))))) (mIfS (mTest (mOp fEq (mVar 0) (mC (.int 3)))) (mDrop (mFz (mCall f_ptries_hold (mCons (mOp fIx (mVar 1) (mC (.int 0))) (mCons (mOp fIx (mVar 1) (mC (.int 1))) (mCons (mVar 3) (mNil))))))) (mIfS (mTest (mOp fEq (mVar 0) (mC (.int 4)))) (mDrop (mFz (mCall f_prounding (mCons (mOp fIx (mVar 1) (mC (.int 0))) (mCons (mOp fIx (mVar 1) (mC (.int 1))) (mCons (mOp fIx (mVar 1) (mC (.int 2))) (mNil))))))) (mDrop (mFz (mCall f_prounding_holds (mCons (mOp fIx (mVar 1) (mC (.int 0))) (mCons (mOp fIx (mVar 1) (mC (.int 1))) (mCons (mOp fIx (mVar 1) (mC (.int 2))) (mCons (mVar 3) (mNil))))))))))))
def m_lrefused4 : MS := mSeq (mAsg (mC .non) (gSet 2)) (mSeq (mAsg (mOp fIx (mTup (mCons (mC .non) (mCons (mC (.int 7)) (mCons (mTup (mNil)) (mCons (mC (.str "paper")) (mCons (mTup (mCons (mC (.int 1)) (mCons (mTup (mCons (mC (.int 2)) (mNil))) (mNil)))) (mNil))))))) (mOp fMod (mBlt bSum (mCons (mFz (mLcO (mItV (mVar 1)) (.nm 5) (mYes) (mBlt bLen (mCons (mBlt bStrA (mCons (mVar 5) (mNil))) (mNil))) [5])) (mNil))) (mC (.int 5)))) (gSet 3)) (mSeq (mTryN 4 [([("NoFit", true), ("NoRule", false), ("Nought", false), ("TooLong", true)], fun ex => mAsg (mTup (mCons (mCallE f_lsorts ex) (mCons (mExF ex "number") (mNil)))) (gSet 2)), ([("NoRule", false), ("Nought", true)], fun ex => mAsg (mTup (mCons (mCallE f_lsorts ex) (mCons (mC (.int 0)) (mNil)))) (gSet 2)), ([("NoRule", true)], fun ex => mAsg (mTup (mCons (mCallE f_lsorts ex) (mCons (mExF ex "rule") (mNil)))) (gSet 2))] (b_lrefused4_0)) (mRet (mVar 2))))
def f_lrefused4 : MF := mFn 6 [] m_lrefused4
def m_lrounding_refused : MS := mSeq (mIfS (mTest (mOp fEq (mOp fMod (mVar 1) (mC (.int 2))) (mC (.int 1)))) (mAsg (mOp fSub (mC (.int 0)) (mVar 2)) (gSet 2)) (mPass)) (mSeq (mAsg (mC .non) (gSet 6)) (mSeq (mIfS (mTest (mOp fEq (mOp fMod (mVar 0) (mC (.int 2))) (mC (.int 1)))) (mSeq (mAsg (mOp fIx (mLst (mCons (mOp fPow (mC (.int 10)) (mC (.int 12))) (mCons (mOp fSub (mC (.int 0)) (mOp fPow (mC (.int 10)) (mC (.int 12)))) (mCons (mOp fAdd (mOp fPow (mC (.int 10)) (mC (.int 12))) (mVar 5)) (mCons (mOp fSub (mOp fSub (mC (.int 0)) (mOp fPow (mC (.int 10)) (mC (.int 12)))) (mVar 5)) (mNil)))))) (mOp fMod (mVar 1) (mC (.int 4)))) (gSet 2)) (mAsg (mTup (mCons (mC (.str "NoFit")) (mCons (mVar 2) (mNil)))) (gSet 6))) (mPass)) (mSeq (mIfS (mTest (mOp fEq (mOp fMod (mOp fDiv (mVar 0) (mC (.int 2))) (mC (.int 2))) (mC (.int 1)))) (mSeq (mAsg (mOp fIx (mLst (mCons (mC (.int 0)) (mCons (mC (.int 13)) (mCons (mUn fNeg (mC (.int 1))) (mCons (mOp fAdd (mC (.int 13)) (mVar 5)) (mNil)))))) (mOp fMod (mOp fDiv (mVar 1) (mC (.int 4))) (mC (.int 4)))) (gSet 3)) (mAsg (mTup (mCons (mC (.str "TooLong")) (mCons (mVar 3) (mNil)))) (gSet 6))) (mPass)) (mSeq (mIfS (mTest (mOp fEq (mOp fMod (mOp fDiv (mVar 0) (mC (.int 4))) (mC (.int 2))) (mC (.int 1)))) (mSeq (mAsg (mOp fIx (mLst (mCons (mOp fAdd (mVar 4) (mC (.str "x"))) (mCons (mSl (mVar 4) (mPart (mC (.int 1))) (mNo)) (mCons (mC (.str "")) (mCons (mC (.str "Half")) (mNil)))))) (mOp fDiv (mVar 1) (mC (.int 16)))) (gSet 4)) (mAsg (mTup (mCons (mC (.str "NoRule")) (mCons (mVar 4) (mNil)))) (gSet 6))) (mPass)) (mSeq (mAsg (mTup (mCons (mVar 2) (mCons (mVar 3) (mCons (mVar 4) (mNil))))) (gSet 7)) (mRet (mBv (mAndT (mTest (mOp fEq (mFz (mCall f_lrefused4 (mCons (mC (.int 4)) (mCons (mVar 7) (mNil))))) (mVar 6))) (mTest (mOp fEq (mFz (mCall f_lrefused4 (mCons (mC (.int 5)) (mCons (mVar 7) (mNil))))) (mVar 6)))))))))))
def f_lrounding_refused : MF := mFn 8 [] m_lrounding_refused
def m_lbeyond : MS := mRet (mOp fIx (mLst (mCons (mOp fAdd (mVar 0) (mC (.int 1))) (mCons (mUn fNeg (mC (.int 1))) (mCons (mOp fAdd (mOp fAdd (mVar 0) (mC (.int 1))) (mVar 2)) (mCons (mOp fSub (mUn fNeg (mC (.int 1))) (mVar 2)) (mNil)))))) (mVar 1))
def f_lbeyond : MF := mFn 3 [] m_lbeyond
def m_lsixes_refused : MS := mSeq (mAsg (mFz (mCall f_lpower (mCons (mC (.int 10)) (mCons (mVar 2) (mNil))))) (gSet 6)) (mSeq (mAsg (mVar 2) (gSet 7)) (mSeq (mAsg (mOp fMod (mVar 3) (mVar 6)) (gSet 8)) (mSeq (mAsg (mOp fMod (mVar 4) (mVar 6)) (gSet 9)) (mSeq (mAsg (mC .non) (gSet 10)) (mSeq (mIfS (mTest (mOp fEq (mOp fMod (mVar 0) (mC (.int 2))) (mC (.int 1)))) (mSeq (mAsg (mFz (mCall f_lbeyond (mCons (mOp fSub (mVar 6) (mC (.int 1))) (mCons (mOp fMod (mVar 1) (mC (.int 4))) (mCons (mVar 5) (mNil)))))) (gSet 9)) (mAsg (mTup (mCons (mC (.str "NoFit")) (mCons (mVar 9) (mNil)))) (gSet 10))) (mPass)) (mSeq (mIfS (mTest (mOp fEq (mOp fMod (mOp fDiv (mVar 0) (mC (.int 2))) (mC (.int 2))) (mC (.int 1)))) (mSeq (mAsg (mFz (mCall f_lbeyond (mCons (mOp fSub (mVar 6) (mC (.int 1))) (mCons (mOp fMod (mOp fDiv (mVar 1) (mC (.int 4))) (mC (.int 4))) (mCons (mOp fAdd (mVar 5) (mC (.int 7))) (mNil)))))) (gSet 8)) (mAsg (mTup (mCons (mC (.str "NoFit")) (mCons (mVar 8) (mNil)))) (gSet 10))) (mPass)) (mSeq (mIfS (mTest (mOp fEq (mOp fMod (mOp fDiv (mVar 0) (mC (.int 4))) (mC (.int 2))) (mC (.int 1)))) (mSeq (mAsg (mOp fIx (mLst (mCons (mC (.int 0)) (mCons (mC (.int 13)) (mCons (mUn fNeg (mC (.int 1))) (mCons (mOp fAdd (mC (.int 13)) (mVar 5)) (mNil)))))) (mOp fDiv (mVar 1) (mC (.int 16)))) (gSet 7)) (mAsg (mTup (mCons (mC (.str "TooLong")) (mCons (mVar 7) (mNil)))) (gSet 10))) (mPass)) (mSeq (mAsg (mTup (mCons (mVar 7) (mCons (mVar 8) (mCons (mVar 9) (mNil))))) (gSet 11)) (mRet (mBv (mAndT (mTest (mOp fEq (mFz (mCall f_lrefused4 (mCons (mC (.int 0)) (mCons (mVar 11) (mNil))))) (mVar 10))) (mTest (mOp fEq (mFz (mCall f_lrefused4 (mCons (mC (.int 1)) (mCons (mVar 11) (mNil))))) (mVar 10))))))))))))))
def f_lsixes_refused : MF := mFn 12 [] m_lsixes_refused
def m_ltries_refused : MS := mSeq (mAsg (mOp fAdd (mC (.int 1)) (mOp fMod (mVar 3) (mOp fSub (mOp fPow (mC (.int 10)) (mC (.int 12))) (mC (.int 1))))) (gSet 3)) (mSeq (mAsg (mC .non) (gSet 5)) (mSeq (mIfS (mTest (mOp fEq (mOp fMod (mVar 0) (mC (.int 2))) (mC (.int 1)))) (mSeq (mAsg (mFz (mCall f_lbeyond (mCons (mOp fSub (mOp fPow (mC (.int 10)) (mC (.int 12))) (mC (.int 1))) (mCons (mOp fMod (mVar 1) (mC (.int 4))) (mCons (mVar 4) (mNil)))))) (gSet 3)) (mAsg (mTup (mCons (mC (.str "NoFit")) (mCons (mVar 3) (mNil)))) (gSet 5))) (mPass)) (mSeq (mIfS (mTest (mOp fEq (mOp fMod (mOp fDiv (mVar 0) (mC (.int 2))) (mC (.int 2))) (mC (.int 1)))) (mSeq (mAsg (mFz (mCall f_lbeyond (mCons (mOp fSub (mOp fPow (mC (.int 10)) (mC (.int 12))) (mC (.int 1))) (mCons (mOp fMod (mOp fDiv (mVar 1) (mC (.int 4))) (mC (.int 4))) (mCons (mOp fAdd (mVar 4) (mC (.int 7))) (mNil)))))) (gSet 2)) (mAsg (mTup (mCons (mC (.str "NoFit")) (mCons (mVar 2) (mNil)))) (gSet 5))) (mPass)) (mSeq (mIfS (mTest (mOp fEq (mOp fMod (mOp fDiv (mVar 0) (mC (.int 4))) (mC (.int 2))) (mC (.int 1)))) (mSeq (mAsg (mC (.int 0)) (gSet 3)) (mAsg (mTup (mCons (mC (.str "Nought")) (mCons (mC (.int 0)) (mNil)))) (gSet 5))) (mPass)) (mRet (mBv (mAndT (mTest (mOp fEq (mFz (mCall f_lrefused4 (mCons (mC (.int 2)) (mCons (mTup (mCons (mVar 2) (mCons (mVar 3) (mNil)))) (mNil))))) (mVar 5))) (mTest (mOp fEq (mFz (mCall f_lrefused4 (mCons (mC (.int 3)) (mCons (mTup (mCons (mVar 2) (mCons (mVar 3) (mNil)))) (mNil))))) (mVar 5))))))))))
def f_ltries_refused : MF := mFn 6 [] m_ltries_refused
def m_law76 : MS := mSeq (mAsg (mFz (mCall f_ldraws (mCons (mFz (mCall f_lcell (mCons (mVar 0) (mCons (mC (.int 0)) (mNil))))) (mCons (mC (.int 453)) (mCons (mLst (mCons (mC (.int 8)) (mCons (mC (.int 64)) (mCons (mC (.int 6)) (mNil))))) (mNil)))))) (gTp 3 (gsCons (gSet 2) (gsCons (gSet 3) (gsCons (gSet 4) (gsNil)))))) (mSeq (mAsg (mFz (mCall f_ldraws (mCons (mFz (mCall f_lcell (mCons (mVar 0) (mCons (mC (.int 1)) (mNil))))) (mCons (mC (.int 455)) (mCons (mLst (mCons (mC (.int 12)) (mCons (mOp fPow (mC (.int 10)) (mC (.int 12))) (mCons (mOp fPow (mC (.int 10)) (mC (.int 12))) (mCons (mC (.int 12)) (mCons (mOp fPow (mC (.int 10)) (mC (.int 39))) (mNil))))))) (mNil)))))) (gTp 5 (gsCons (gSet 5) (gsCons (gSet 6) (gsCons (gSet 7) (gsCons (gSet 8) (gsCons (gSet 9) (gsNil)))))))) (mSeq (mAsg (mOp fIx (mTup (mCons (mC (.str "cut")) (mCons (mC (.str "up")) (mCons (mC (.str "half")) (mCons (mC (.str "even")) (mCons (mC (.str "floor")) (mCons (mC (.str "ceil")) (mNil)))))))) (mVar 4)) (gSet 1)) (mSeq (mIfS (mNotT (mTest (mFz (mCall f_lsixes_refused (mCons (mVar 2) (mCons (mVar 3) (mCons (mOp fAdd (mC (.int 1)) (mVar 5)) (mCons (mVar 6) (mCons (mVar 7) (mCons (mVar 9) (mNil))))))))))) (mRet (mC (.bl false))) (mPass)) (mSeq (mIfS (mNotT (mTest (mFz (mCall f_ltries_refused (mCons (mVar 2) (mCons (mVar 3) (mCons (mVar 6) (mCons (mVar 7) (mCons (mVar 9) (mNil)))))))))) (mRet (mC (.bl false))) (mPass)) (mRet (mFz (mCall f_lrounding_refused (mCons (mVar 2) (mCons (mVar 3) (mCons (mVar 6) (mCons (mOp fAdd (mC (.int 1)) (mVar 8)) (mCons (mVar 1) (mCons (mVar 9) (mNil))))))))))))))
def f_law76 : MF := mFn 10 [] m_law76
theorem lcell_ok (ns : List Int) (k : Nat) : ∃ v : Int, f_lcell [.scr ns, .int k] = .ok (.int v, []) := by
  unfold f_lcell
  by_cases h : (k : Int) < ns.length
  · have h' : k < ns.length := by omega
    refine ⟨ns[k], mFn_ok ?_⟩
    simp [m_lcell, h', atI_ge]
  · by_cases h0 : ns.length = 0
    · have h' : ns = [] := List.length_eq_zero_iff.mp h0
      subst h'
      refine ⟨7919 * (k + 1), mFn_ok ?_⟩
      simp [m_lcell, mulOk_l]
    · have h' : ¬ k < ns.length := by omega
      have hp : (0 : Int) < ns.length := by omega
      have e := fmod_ge' (a := k) hp
      have e2 := fmod_lt' (a := k) hp
      have h2 : ((k : Int).fmod ns.length).toNat < ns.length := by omega
      have h3 : ¬ ns = [] := by intro h; subst h; exact h0 rfl
      have h4 : ¬ ((ns.length : Int) = 0) := by omega
      refine ⟨ns[((k : Int).fmod ns.length).toNat] + 104729 * k, mFn_ok ?_⟩
      simp [m_lcell, h', h3, h4, atI_ge e, h2, mulOk_l]
theorem lmixed_ok (a b c : Int) : ∃ v : Int, f_lmixed [.int a, .int b, .int c] = .ok (.int v, []) := by
  unfold f_lmixed
  have e := fmod_ge' (a := b) (b := 8) (by decide)
  have e2 := fmod_lt' (a := b) (b := 8) (by decide)
  generalize hi : b.fmod 8 = i at e e2
  obtain ⟨p, hp, hp1, hp2⟩ : ∃ p : Int, atI [MV.int 2147483629, .int 2147483587, .int 2147483579, .int 2147483563, .int 2147483549, .int 2147483543, .int 2147483497, .int 2147483489] i = some (.int p) ∧ 0 < p ∧ p < 2147483648 := by
    obtain ⟨j, rfl⟩ := Int.eq_ofNat_of_zero_le e
    match j, e2 with
    | 0, _ => exact ⟨_, rfl, by decide, by decide⟩
    | 1, _ => exact ⟨_, rfl, by decide, by decide⟩
    | 2, _ => exact ⟨_, rfl, by decide, by decide⟩
    | 3, _ => exact ⟨_, rfl, by decide, by decide⟩
    | 4, _ => exact ⟨_, rfl, by decide, by decide⟩
    | 5, _ => exact ⟨_, rfl, by decide, by decide⟩
    | 6, _ => exact ⟨_, rfl, by decide, by decide⟩
    | 7, _ => exact ⟨_, rfl, by decide, by decide⟩
    | j + 8, h => exact absurd h (by omega)
  have b1 : ∀ x : Int, 0 ≤ x.fmod 2147483647 ∧ x.fmod 2147483647 < 2147483647 := fun x => ⟨fmod_ge' (by decide), fmod_lt' (by decide)⟩
  have b2 : ∀ x : Int, (x.fmod 2147483647).natAbs < 18446744073709551616 := fun x => by have := b1 x; omega
  have b3 : ∀ x : Int, mulOk (x.fmod 2147483647) 1000000007 = true := fun x => mulOk_r (by decide) (by decide)
  have h : ∃ v ρ, m_lmixed [some (.int a), some (.int b), some (.int c), none, none, none] = .ok (.rt (.int v), ρ) := by
    simp [m_lmixed, szOk_small, mulOk_l, hi, hp, hp1, Int.ne_of_gt hp1, b2, b3]
  obtain ⟨v, ρ, h⟩ := h
  exact ⟨v, mFn_ok ⟨ρ, h⟩⟩
def DrawsAre (ws ds : List Int) : Prop := ds.length = ws.length ∧ ∀ i (h : i < ws.length) (h' : i < ds.length), 0 ≤ ds[i] ∧ ds[i] < ws[i]
theorem ldraws_ok (cell salt : Int) (ws : List Int) (hn : ws.length < 1000) (hw : ∀ w ∈ ws, 0 < w ∧ divOk w = true) : ∃ ds : List Int, DrawsAre ws ds ∧ f_ldraws [.int cell, .int salt, .lst (ws.map .int)] = .ok (.own (ds.map .int), []) := by
  have key : ∀ l0 : Int, ∃ ρ', mLoop (gSet 5) b_ldraws_0 (rngM 0 1 ws.length) [some (.int cell), some (.int salt), some (.lst (ws.map .int)), some (.own []), some (.int l0), none] = .ok (.nx, ρ') ∧ ∃ ds l v, DrawsAre (ws.take ws.length) ds ∧ ρ' = [some (.int cell), some (.int salt), some (.lst (ws.map .int)), some (.own (ds.map .int)), some (.int l), v] := by
    intro l0
    refine loop_rng (fun i ρ => ∃ ds l v, DrawsAre (ws.take i) ds ∧ ρ = [some (.int cell), some (.int salt), some (.lst (ws.map .int)), some (.own (ds.map .int)), some (.int l), v]) ⟨[], l0, none, ⟨by simp, by simp⟩, rfl⟩ ?_
    rintro i ρ hi ⟨ds, l, v, ⟨hd1, hd2⟩, rfl⟩
    have hwi := hw ws[i] (List.getElem_mem hi)
    have hl : ds.length = i := by rw [hd1, List.length_take]; omega
    have ix : atI (ws.map MV.int) (i : Int) = some (.int ws[i]) := by rw [atI_ge (by omega)]; simp [hi]
    have ds' : ∀ d : Int, DrawsAre (ws.take (i + 1)) (ds ++ [d.fmod ws[i]]) := by
      intro d
      refine ⟨by simp [hl, List.length_take]; omega, fun j h h' => ?_⟩
      have hj : j ≤ i := by rw [List.length_take] at h; omega
      rw [List.getElem_take]
      by_cases e : j = i
      · subst e
        rw [List.getElem_append_right (by omega)]
        simp [hl]
        exact ⟨fmod_ge' hwi.1, fmod_lt' hwi.1⟩
      · have := hd2 j (by rw [List.length_take]; omega) (by omega)
        rw [List.getElem_append_left (by omega)]
        rw [List.getElem_take] at this
        exact this
    have hsz : ds.length < sizeLine := by rw [sizeLine_eq]; omega
    by_cases hp : 0 < l
    · refine ⟨[some (.int cell), some (.int salt), some (.lst (ws.map .int)), some (.own (ds.map .int)), some (.int l), some (.int i)], [some (.int cell), some (.int salt), some (.lst (ws.map .int)), some (.own ((ds ++ [l.fmod ws[i]]).map .int)), some (.int (l.fdiv ws[i])), some (.int i)], ?_, .inl ?_, ⟨_, _, _, ds' l, rfl⟩⟩
      · simp
      · simp [b_ldraws_0, hp, isOwn, ix, Int.ne_of_gt hwi.1, hsz, hwi.2]
    · obtain ⟨m, hm⟩ := lmixed_ok cell i salt
      refine ⟨[some (.int cell), some (.int salt), some (.lst (ws.map .int)), some (.own (ds.map .int)), some (.int l), some (.int i)], [some (.int cell), some (.int salt), some (.lst (ws.map .int)), some (.own ((ds ++ [m.fmod ws[i]]).map .int)), some (.int l), some (.int i)], ?_, .inl ?_, ⟨_, _, _, ds' m, rfl⟩⟩
      · simp
      · simp [b_ldraws_0, hp, isOwn, ix, hm, Int.ne_of_gt hwi.1, hsz]
  have e0 : inR (ws.length : Int) = true := inR_of (by omega) (by omega)
  unfold f_ldraws
  by_cases hc : (1000000000000000000 : Int) ≤ (if cell < 0 then -cell else cell)
  · obtain ⟨ρ', h, ds, l, v, hd, rfl⟩ := key (if cell < 0 then -cell else cell)
    refine ⟨ds, by simpa using hd, mFn_ok ?_⟩
    · simp [m_ldraws, szOk_small, hc, e0, h]
  · obtain ⟨ρ', h, ds, l, v, hd, rfl⟩ := key 0
    refine ⟨ds, by simpa using hd, mFn_ok ?_⟩
    · simp [m_ldraws, szOk_small, hc, e0, h]
theorem draws_nil {ds : List Int} : DrawsAre [] ds ↔ ds = [] := by
  constructor
  · intro h; exact List.length_eq_zero_iff.mp h.1
  · rintro rfl; exact ⟨rfl, by simp⟩
theorem draws_cons {w : Int} {ws ds : List Int} : DrawsAre (w :: ws) ds ↔ ∃ d r, ds = d :: r ∧ (0 ≤ d ∧ d < w) ∧ DrawsAre ws r := by
  constructor
  · intro h
    match ds, h with
    | [], h => exact absurd h.1 (by simp)
    | d :: r, h =>
      refine ⟨d, r, rfl, h.2 0 (by simp) (by simp), by simpa using h.1, fun i h1 h2 => ?_⟩
      exact h.2 (i + 1) (by simpa using h1) (by simpa using h2)
  · rintro ⟨d, r, rfl, h1, h2⟩
    refine ⟨by simpa using h2.1, fun i a b => ?_⟩
    match i with
    | 0 => exact h1
    | i + 1 => exact h2.2 i (by simpa using a) (by simpa using b)
theorem ppower_eq {b : Int} {k : Int} (hb : -(2 ^ 64) < b ∧ b < 2 ^ 64) (hk : k < 2 ^ 40) (hk0 : -(2 ^ 40) < k) : f_ppower [.int b, .int k] = .ok (.int (b ^ k.toNat), []) := by
  obtain ⟨ρ', e, h⟩ := loop_rng (g := gSet 3) (b := b_ppower_0) (lo := 0) (c := 1) (n := k.toNat) (ρ := [some (.int b), some (.int k), some (.int 1), none])
    (fun i ρ => ∃ v, ρ = [some (.int b), some (.int k), some (.int (b ^ i)), v]) ⟨none, by simp⟩ (by
      rintro i ρ hi ⟨v, rfl⟩
      simp [mulOk_r hb.1 hb.2, Int.pow_succ, b_ppower_0])
  obtain ⟨v, rfl⟩ := h
  refine mFn_ok ?_
  simp [m_ppower, inR_of (i := k) (by omega) (by omega), e]
theorem pten_eq {k : Int} (hk : k < 2 ^ 40) (hk0 : -(2 ^ 40) < k) : f_ppower [.int 10, .int k] = .ok (.int (10 ^ k.toNat), []) := ppower_eq (by decide) hk hk0
theorem lpower_eq {b : Int} {k : Int} (hb : -(2 ^ 64) < b ∧ b < 2 ^ 64) (hk : k < 2 ^ 40) (hk0 : -(2 ^ 40) < k) : f_lpower [.int b, .int k] = .ok (.int (b ^ k.toNat), []) := by
  obtain ⟨ρ', e, h⟩ := loop_rng (g := gSet 3) (b := b_lpower_0) (lo := 0) (c := 1) (n := k.toNat) (ρ := [some (.int b), some (.int k), some (.int 1), none])
    (fun i ρ => ∃ v, ρ = [some (.int b), some (.int k), some (.int (b ^ i)), v]) ⟨none, by simp⟩ (by
      rintro i ρ hi ⟨v, rfl⟩
      simp [mulOk_r hb.1 hb.2, Int.pow_succ, b_lpower_0])
  obtain ⟨v, rfl⟩ := h
  refine mFn_ok ?_
  simp [m_lpower, inR_of (i := k) (by omega) (by omega), e]
theorem lten_eq {k : Int} (hk : k < 2 ^ 40) (hk0 : -(2 ^ 40) < k) : f_lpower [.int 10, .int k] = .ok (.int (10 ^ k.toNat), []) := lpower_eq (by decide) hk hk0
theorem pfigures_of_eq (n k : Nat) (hk : k < 1000000) : f_pfigures_of [.int n, .int k] = .ok (.lst ((digsB k n).map fun d : Nat => MV.int d), []) := by
  refine mFn_ok ?_
  obtain ⟨ρ', e, v, rfl⟩ := loop_nxr (g := gSet 3) (b := b_pfigures_of_0) (lo := 0) (c := 1) (n := k) (ρ := [some (.int n), some (.int k), some (.own []), none])
    (fun i ρ => ∃ v, ρ = [some (.int (n / 10 ^ i : Nat)), some (.int k), some (.own ((digs i n).map fun d : Nat => MV.int d)), v]) ⟨none, by simp [digs]⟩ (by
      rintro i ρ hi ⟨v, rfl⟩
      have hz : (digs i n).length < sizeLine := by rw [sizeLine_eq, digs_len]; omega
      have h1 : ((n / 10 ^ i : Nat) : Int).fmod 10 = ((n / 10 ^ i % 10 : Nat) : Int) := nat_fmod _ 10
      have h2 : ((n / 10 ^ i : Nat) : Int).fdiv 10 = ((n / 10 ^ (i + 1) : Nat) : Int) := by rw [Nat.pow_succ, ← Nat.div_div_eq_div_mul]; exact nat_fdiv _ 10
      generalize hq : n / 10 ^ i = q at h1 h2
      generalize hq2 : n / 10 ^ (i + 1) = q2 at h2
      have h3 : digs (i + 1) n = digs i n ++ [q % 10] := by rw [digs_append, hq]
      simp [b_pfigures_of_0, hz, divOk, h1, h2, h3])
  simp [m_pfigures_of, szOk_small, inR_of (i := (k : Int)) (by omega) (by omega), e, digsB]
def most (n : Nat) (sg : Str) : Int := if sg = "tens" then 5 * 10 ^ (n - 1) - 1 else 10 ^ n - 1
section
variable {kd sg : Str} {n : Nat} {p : MV}
theorem at1 {a b c d : MV} : atI [a, b, c, d] 1 = some b := rfl
theorem at2 {a b c d : MV} : atI [a, b, c, d] 2 = some c := rfl
end
def fB (fr : Nat) (ws : List Str) (rs : List MV) (tab : Str → MV) : List (Str × MV) := [("rows", .own rs), ("tables", .own (ws.map tab)), ("worths", .own (ws.map MV.fnc)), ("free", .int fr)]
def Bo (fr : Nat) (ws : List Str) (rs : List MV) (tab : Str → MV) : MV := .obj "Builder" (fB fr ws rs tab)
section
variable {fr : Nat} {ws : List Str} {rs : List MV} {tab : Str → MV} {ρ : Env} {r x y z : Option MV}
@[simp] theorem Bo_held : (Bo fr ws rs tab).held = true := nr rfl
@[simp] theorem Bo_fold : MV.obj (Str.ofString "Builder") (fB fr ws rs tab) = Bo fr ws rs tab := nr rfl
@[simp] theorem lk_rows : (fB fr ws rs tab).lookup (Str.ofString "rows") = some (.own rs) := nr rfl
@[simp] theorem lk_tables : (fB fr ws rs tab).lookup (Str.ofString "tables") = some (.own (ws.map tab)) := nr rfl
@[simp] theorem lk_worths : (fB fr ws rs tab).lookup (Str.ofString "worths") = some (.own (ws.map MV.fnc)) := nr rfl
@[simp] theorem lk_free : (fB fr ws rs tab).lookup (Str.ofString "free") = some (.int fr) := nr rfl
@[simp] theorem lk_cell : (fB fr ws rs tab).lookup (Str.ofString "cell") = none := nr rfl
@[simp] theorem lk_put : (fB fr ws rs tab).lookup (Str.ofString "put") = none := nr rfl
@[simp] theorem lk_row : (fB fr ws rs tab).lookup (Str.ofString "row") = none := nr rfl
@[simp] theorem lk_look : (fB fr ws rs tab).lookup (Str.ofString "look") = none := nr rfl
@[simp] theorem lk_copied : (fB fr ws rs tab).lookup (Str.ofString "copied") = none := nr rfl
@[simp] theorem lk_looked : (fB fr ws rs tab).lookup (Str.ofString "looked") = none := nr rfl
@[simp] theorem lk_ended : (fB fr ws rs tab).lookup (Str.ofString "ended") = none := nr rfl
@[simp] theorem lk_program : (fB fr ws rs tab).lookup (Str.ofString "program") = none := nr rfl
@[simp] theorem lk_back_to : (fB fr ws rs tab).lookup (Str.ofString "back_to") = none := nr rfl
@[simp] theorem put_rows {zs : List MV} : putM (Str.ofString "rows") (.own zs) (fB fr ws rs tab) = fB fr ws zs tab := nr rfl
@[simp] theorem put_free {k : Nat} : putM (Str.ofString "free") (.int k) (fB fr ws rs tab) = fB k ws rs tab := nr rfl
@[simp] theorem put_free1 : putM (Str.ofString "free") (.int ((fr : Int) + 1)) (fB fr ws rs tab) = fB (fr + 1) ws rs tab := nr rfl
@[simp] theorem fB_len : (fB fr ws rs tab).length = 4 := nr rfl
def lkW (ws : List Str) (w : Str) : List Str := if w ∈ ws then ws else ws ++ [w]
def lkI (ws : List Str) (w : Str) : Nat := (lkW ws w).findIdx fun z => decide (z = w)
end
def w01 (p : Bool) : Nat := if p then 1 else 0
def wtab : List (Str × (Nat → Nat)) := [
  ("sign_below", fun b => w01 (decide (b % 16 = 11 ∨ b % 16 = 13))),
  ("five_on", fun b => w01 (decide (4 < b))),
  ("ten_or_none", fun b => 10 * w01 (decide (0 < b))),
  ("nine_less", fun b => if 9 < b ∧ b < 20 then 19 - b else b),
  ("ahead_of_last", fun b => b / 10),
  ("last_figure", fun b => b % 10),
  ("high_half", fun b => b / 16),
  ("low_half", fun b => b % 16),
  ("one_or_none", fun b => w01 (decide (0 < b))),
  ("half_up", fun b => b % 16 * 16),
  ("one_of_two", fun b => w01 (decide (b % 4 = 1 ∨ b % 4 = 2))),
  ("not_all", fun b => w01 (decide (b < 255))),
  ("none_or_all", fun b => 255 * w01 (decide (b = 0))),
  ("lacking", fun b => (9 + 10 * 26 - b) % 10),
  ("fill", fun b => 255 * (1 - b / 128)),
  ("top_two", fun b => b / 128),
  ("other_twos", fun b => 255 - b),
  ("ten_low", fun b => 10 * b % 256),
  ("ten_high", fun b => 10 * b / 256),
  ("six_on", fun b => w01 (decide (5 < b))),
  ("product_byte", fun b => b / 16 * (b % 16)),
  ("order_byte", fun b => if b % 4 = 0 then 1 else if b % 4 = 1 then 2 else if b % 4 = 2 then 1 else 0),
  ("one_of_none", fun b => w01 (decide (b = 0))),
  ("lowest_two", fun b => b % 2),
  ("all_or_none", fun b => 255 * w01 (decide (0 < b)))]
def worthV (w : Str) (b : Nat) : Nat := match wtab.lookup w with | some g => g b | none => 0
def tabW (w : Str) : MV := .tup ((List.range 256).map fun b => .int (worthV w b))
inductive Rw where
  | put (a v : Nat) | copy (a b : Nat) | look (a k : Nat) | add (a b : Nat) | addc (a b : Nat) | and_ (a b : Nat) | or_ (a b : Nat) | left (a : Nat) | right (a : Nat) | mark (v : Nat)
def enR : Rw → MV
  | .put a v => .tup [.str "put", .int a, .int v]
  | .copy a b => .tup [.str "copy", .int a, .int b]
  | .look a k => .tup [.str "look", .int a, .int k]
  | .add a b => .tup [.str "add", .int a, .int b]
  | .addc a b => .tup [.str "addc", .int a, .int b]
  | .and_ a b => .tup [.str "and", .int a, .int b]
  | .or_ a b => .tup [.str "or", .int a, .int b]
  | .left a => .tup [.str "left", .int a]
  | .right a => .tup [.str "right", .int a]
  | .mark v => .tup [.str "mark", .int v]
def cg (c : List Nat) (i : Nat) : Nat := c.getD i 0
def Cells (c : List Nat) : Prop := c.length = 256 ∧ ∀ i, cg c i < 256
def TabLt (tb : Nat → Nat → Nat) (nt : Nat) : Prop := ∀ k v, k < nt → v < 256 → tb k v < 256
theorem cg_set {c : List Nat} {a v i : Nat} : cg (c.set a v) i = if i = a ∧ a < c.length then v else cg c i := by
  unfold cg
  rw [List.getD_eq_getElem?_getD, List.getD_eq_getElem?_getD, List.getElem?_set]
  by_cases h : a = i
  · subst h
    by_cases h2 : a < c.length
    · simp [h2]
    · simp [h2, List.getElem?_eq_none (Nat.le_of_not_lt h2)]
  · have : ¬ (i = a) := fun e => h e.symm
    simp [h, this]
theorem Cells.set {c : List Nat} (h : Cells c) {a v : Nat} (hv : v < 256) : Cells (c.set a v) := by
  refine ⟨by rw [List.length_set]; exact h.1, fun i => ?_⟩
  rw [cg_set]
  split
  · exact hv
  · exact h.2 i
inductive Ab where
  | r (x : Rw) | lk (c : Nat) (w : Str)
def layA (s : List Str × List Rw) : Ab → List Str × List Rw
  | .r x => (s.1, s.2 ++ [x])
  | .lk c w => (lkW s.1 w, s.2 ++ [.look c (lkI s.1 w)])
def lays (as : List Ab) (s : List Str × List Rw) : List Str × List Rw := as.foldl layA s
def okAb : Ab → Bool
  | .r _ => true
  | .lk _ w => fnNames.contains w
def Gd (s : List Str × List Rw) (k : Nat) : Prop := s.1.Nodup ∧ (∀ z ∈ s.1, z ∈ fnNames) ∧ s.2.length + k < 16777216
theorem nodup_le : ∀ {l m : List Str}, l.Nodup → (∀ z ∈ l, z ∈ m) → l.length ≤ m.length
  | [], m, _, _ => Nat.zero_le _
  | a :: l, m, h, hs => by
    obtain ⟨h1, h2⟩ := List.nodup_cons.mp h
    have ha := hs a (by simp)
    have ih := @nodup_le l (m.erase a) h2 (fun z hz => by
      have ne : z ≠ a := fun e => h1 (by rw [← e]; exact hz)
      exact (List.mem_erase_of_ne ne).mpr (hs z (List.mem_cons_of_mem _ hz)))
    rw [List.length_erase_of_mem ha] at ih
    have := List.length_pos_of_mem ha
    simp; omega
theorem Gd.len {s : List Str × List Rw} {k : Nat} (h : Gd s k) : s.1.length < 100 := by
  have h1 : s.1.length ≤ fnNames.length := nodup_le h.1 fun z hz => h.2.1 z hz
  have h2 : fnNames.length < 100 := by decide +kernel
  omega
theorem Gd.less {s : List Str × List Rw} {k j : Nat} (h : Gd s k) (hj : j ≤ k) : Gd s j := ⟨h.1, h.2.1, by have := h.2.2; omega⟩
theorem layA_len (s : List Str × List Rw) (a : Ab) : (layA s a).2.length = s.2.length + 1 := by cases a <;> simp [layA]
theorem lkW_nodup {ws : List Str} {w : Str} (h : ws.Nodup) : (lkW ws w).Nodup := by
  unfold lkW
  split
  · exact h
  · rename_i hn
    rw [List.nodup_append]
    refine ⟨h, by simp, ?_⟩
    intro a ha b hb e
    rw [List.mem_singleton.mp hb] at e
    exact hn (e ▸ ha)
theorem Gd.step {s : List Str × List Rw} {k : Nat} (h : Gd s (k + 1)) {a : Ab} (ha : okAb a = true) : Gd (layA s a) k := by
  refine ⟨?_, ?_, by rw [layA_len]; have := h.2.2; omega⟩
  · cases a with
    | r x => exact h.1
    | lk c w => exact lkW_nodup h.1
  · cases a with
    | r x => exact h.2.1
    | lk c w =>
      intro z hz
      have hw : w ∈ fnNames := List.contains_iff_mem.mp ha
      simp only [layA] at hz
      unfold lkW at hz
      split at hz
      · exact h.2.1 z hz
      · rcases List.mem_append.mp hz with hz | hz
        · exact h.2.1 z hz
        · rw [List.mem_singleton.mp hz]; exact hw
theorem Gd.lays {k : Nat} : ∀ {as : List Ab} {s : List Str × List Rw}, Gd s (as.length + k) → as.all okAb = true → Gd (lays as s) k
  | [], s, h, _ => by simpa [Tm.lays] using h
  | a :: as, s, h, ha => by
    rw [List.all_cons, Bool.and_eq_true] at ha
    have h1 : Gd (layA s a) (as.length + k) := Gd.step (h.less (by simp; omega)) ha.1
    show Gd (Tm.lays as (layA s a)) k
    exact Gd.lays h1 ha.2
def bS (fr : Nat) (s : List Str × List Rw) : MV := Bo fr s.1 (s.2.map enR) tabW
section
variable {fr : Nat} {s : List Str × List Rw} {ρ : Env} {x y z : Option MV}
@[simp] theorem bS_held : (bS fr s).held = true := nr rfl
end
theorem nm (w : Str) (h : fnNames.contains w = true) : w ∈ fnNames := List.contains_iff_mem.mp h
def cells (fr many : Nat) : List Nat := (List.range many).map (fr + ·)
def w3 : List MV := [.str "put", .str "copy", .str "add", .str "addc", .str "and", .str "or"]
def w2 : List MV := [.str "left", .str "right"]
theorem cbE_b2 {f : MF} {x v : MV} {ys : List MV} {args : List BA} {ρ : Env} {r q y : Option MV} (h : x.held = true) (hf : fill args (r :: q :: some x :: ρ) = some ys) (hi : idxB args = []) (en : f (x :: ys) = .ok (v, [y])) : cbE f (.b 2 :: args) (r :: q :: some x :: ρ) = .ok (v, r :: q :: y :: ρ) := by
  rw [cbE_ap]
  have e : fill (.b 2 :: args) (r :: q :: some x :: ρ) = some (x :: ys) := by
    rw [fill_b, hf]
    simp [h]
  rw [e]
  show (match f (x :: ys) with | .ok (v, os) => _ | .exc e os => _ | .stuck => _) = _
  rw [en]
  rw [idxB_b, hi]
  rfl
section
variable {f : MF} {fr fr' : Nat} {s s' : List Str × List Rw} {a b c d v : MV}
theorem cd1 (en : f [bS fr s, a] = .ok (v, [some (bS fr' s')])) (r q : Option MV) (ρ : Env) : cbE f [.b 2, .v a] (r :: q :: some (bS fr s) :: ρ) = .ok (v, r :: q :: some (bS fr' s') :: ρ) := cbE_b2 rfl rfl rfl en
theorem cd2 (en : f [bS fr s, a, b] = .ok (v, [some (bS fr' s')])) (r q : Option MV) (ρ : Env) : cbE f [.b 2, .v a, .v b] (r :: q :: some (bS fr s) :: ρ) = .ok (v, r :: q :: some (bS fr' s') :: ρ) := cbE_b2 rfl rfl rfl en
theorem cd3 (en : f [bS fr s, a, b, c] = .ok (v, [some (bS fr' s')])) (r q : Option MV) (ρ : Env) : cbE f [.b 2, .v a, .v b, .v c] (r :: q :: some (bS fr s) :: ρ) = .ok (v, r :: q :: some (bS fr' s') :: ρ) := cbE_b2 rfl rfl rfl en
theorem cd4 (en : f [bS fr s, a, b, c, d] = .ok (v, [some (bS fr' s')])) (r q : Option MV) (ρ : Env) : cbE f [.b 2, .v a, .v b, .v c, .v d] (r :: q :: some (bS fr s) :: ρ) = .ok (v, r :: q :: some (bS fr' s') :: ρ) := cbE_b2 rfl rfl rfl en
end
structure Bs (L : List Str) : Prop where
  ah : ("ahead_of_last" : Str) ∈ L
  la : ("last_figure" : Str) ∈ L
  ni : ("nine_less" : Str) ∈ L
  hi : ("high_half" : Str) ∈ L
  lo : ("low_half" : Str) ∈ L
  up : ("half_up" : Str) ∈ L
  te : ("ten_or_none" : Str) ∈ L
  fi : ("five_on" : Str) ∈ L
  on : ("one_or_none" : Str) ∈ L
  be : ("sign_below" : Str) ∈ L
  tw : ("one_of_two" : Str) ∈ L
theorem ok2 {a b : Nat} (ha : a < 256) (hb : b < 256) : (decide (a < 256) && decide (b < 256)) = true := by rw [decide_eq_true ha, decide_eq_true hb]; rfl
theorem log_small {m : Nat} (h : m < 2 ^ 1000) : m.log2 < 1920 := by
  by_cases h0 : m = 0
  · subst h0; decide
  · have := (Nat.log2_lt h0).mpr h
    omega
theorem divOk_ten {k : Nat} (h : k < 100) : divOk ((10 : Int) ^ k) = true := by
  unfold divOk
  have e : ((10 : Int) ^ k) = ((10 ^ k : Nat) : Int) := by simp
  have h1 : 10 ^ k < 2 ^ 1000 := Nat.lt_of_le_of_lt (Nat.pow_le_pow_right (by decide) (show k ≤ 100 by omega)) (by decide +kernel)
  have h2 := log_small h1
  have h3 : 0 < 10 ^ k := Nat.pow_pos (by decide)
  rw [e, Bool.or_eq_true]
  right
  simp only [Int.natAbs_natCast, Bool.and_eq_true, decide_eq_true_eq]
  omega
theorem Gd.go {s : List Str × List Rw} {N : Nat} {as : List Ab} (h : Gd s N) (ok : as.all okAb = true) (k : Nat) (hl : as.length + k ≤ N) : Gd (Tm.lays as s) k := Gd.lays (h.less hl) ok
def IsRule (rule : Str) : Prop := rule = "cut" ∨ rule = "up" ∨ rule = "half" ∨ rule = "even" ∨ rule = "floor" ∨ rule = "ceil"
def addM (rule : Str) (q r T b : Nat) : Nat :=
  if rule = "cut" then 0
  else if rule = "half" then (if T ≤ 2 * r then 1 else 0)
  else if rule = "even" then (if T < 2 * r ∨ (2 * r = T ∧ q % 2 = 1) then 1 else 0)
  else if rule = "floor" then (if 0 < r ∧ b = 1 then 1 else 0)
  else if rule = "ceil" then (if 0 < r ∧ b = 0 then 1 else 0)
  else (if 0 < r then 1 else 0)
theorem addM_le (rule : Str) (q r T b : Nat) : addM rule q r T b ≤ 1 := by
  unfold addM
  repeat' split
  all_goals omega
def rndM (rule : Str) (x : Int) (k : Nat) : Int :=
  if x < 0 then -((x.natAbs / 10 ^ k + addM rule (x.natAbs / 10 ^ k) (x.natAbs % 10 ^ k) (10 ^ k) 1 : Nat) : Int)
  else ((x.natAbs / 10 ^ k + addM rule (x.natAbs / 10 ^ k) (x.natAbs % 10 ^ k) (10 ^ k) 0 : Nat) : Int)
def rulesL : List MV := [.str "cut", .str "up", .str "half", .str "even", .str "floor", .str "ceil"]
theorem rule_at {d : Int} (h : 0 ≤ d ∧ d < 6) : ∃ rule : Str, IsRule rule ∧ atI rulesL d = some (.str rule) := by
  rcases (show d = 0 ∨ d = 1 ∨ d = 2 ∨ d = 3 ∨ d = 4 ∨ d = 5 by omega) with rfl | rfl | rfl | rfl | rfl | rfl
  · exact ⟨"cut", .inl rfl, rfl⟩
  · exact ⟨"up", .inr (.inl rfl), rfl⟩
  · exact ⟨"half", .inr (.inr (.inl rfl)), rfl⟩
  · exact ⟨"even", .inr (.inr (.inr (.inl rfl))), rfl⟩
  · exact ⟨"floor", .inr (.inr (.inr (.inr (.inl rfl)))), rfl⟩
  · exact ⟨"ceil", .inr (.inr (.inr (.inr (.inr rfl)))), rfl⟩
theorem pone_more_eq {rule : Str} (hr : IsRule rule) (q r T : Nat) (b : Bool) : ∃ v : Bool, f_pone_more [.int q, .int r, .int T, .str rule, .bl b] = .ok (.bl v, []) ∧ addM rule q r T (if b = true then 1 else 0) = if v = true then 1 else 0 := by
  have m2 : mulOk 2 (r : Int) = true := mulOk_l (by decide) (by decide)
  have fm : (q : Int).fmod 2 = ((q % 2 : Nat) : Int) := nat_fmod _ 2
  have d2 : divOk 2 = true := rfl
  unfold addM
  rcases hr with rfl | rfl | rfl | rfl | rfl | rfl
  · exact ⟨false, mFn_ok (by simp [m_pone_more]), rfl⟩
  · refine ⟨decide (0 < r), mFn_ok ?_, ?_⟩
    · by_cases h : 0 < r <;> simp [m_pone_more, h]
    · by_cases h : 0 < r <;> simp [h]
  · refine ⟨decide (T ≤ 2 * r), mFn_ok ?_, ?_⟩
    · by_cases h : T ≤ 2 * r
      · have h2 : (T : Int) ≤ 2 * (r : Int) := by omega
        simp [m_pone_more, m2, h, h2]
      · have h2 : ¬ (T : Int) ≤ 2 * (r : Int) := by omega
        simp [m_pone_more, m2, h, h2]
    · by_cases h : T ≤ 2 * r <;> simp [h]
  · refine ⟨decide (T < 2 * r ∨ (2 * r = T ∧ q % 2 = 1)), mFn_ok ?_, ?_⟩
    · by_cases h : T < 2 * r
      · have h2 : (T : Int) < 2 * (r : Int) := by omega
        simp [m_pone_more, m2, h, h2]
      · have h2 : ¬ (T : Int) < 2 * (r : Int) := by omega
        by_cases h3 : 2 * r = T
        · have h4 : 2 * (r : Int) = (T : Int) := by omega
          by_cases h5 : q % 2 = 1
          · have h6 : (q : Int).fmod 2 = 1 := by rw [fm, h5]; rfl
            simp [m_pone_more, m2, h, h2, h3, h4, h5, h6, d2]
          · have h6 : ¬ (q : Int).fmod 2 = 1 := by rw [fm]; omega
            simp [m_pone_more, m2, h, h2, h3, h4, h5, h6, d2]
        · have h4 : ¬ 2 * (r : Int) = (T : Int) := by omega
          simp [m_pone_more, m2, h, h2, h3, h4]
    · by_cases h : T < 2 * r ∨ (2 * r = T ∧ q % 2 = 1) <;> simp [h]
  · refine ⟨decide (0 < r) && b, mFn_ok ?_, ?_⟩
    · by_cases h : 0 < r <;> cases b <;> simp [m_pone_more, h]
    · by_cases h : 0 < r <;> cases b <;> simp [h]
  · refine ⟨decide (0 < r) && !b, mFn_ok ?_, ?_⟩
    · by_cases h : 0 < r <;> cases b <;> simp [m_pone_more, h]
    · by_cases h : 0 < r <;> cases b <;> simp [h]
theorem prounded_eq {rule : Str} {k : Nat} (hk : 1 ≤ k ∧ k ≤ 18) (hr : IsRule rule) (x : Int) : f_prounded [.int x, .int (-(k : Int)), .str rule] = .ok (.int (rndM rule x k), []) := by
  refine mFn_ok ?_
  have a1 : bAbs [.int x] = some (.int (x.natAbs : Int)) := by
    have e : (if x < 0 then -x else x) = (x.natAbs : Int) := by split <;> omega
    rw [bAbs_i, e]
  have p := @pten_eq (k : Int) (by omega) (by omega)
  rw [Int.toNat_natCast] at p
  have e10 : ((10 ^ k : Nat) : Int) = (10 : Int) ^ k := by simp
  have dv : divOk ((10 : Int) ^ k) = true := divOk_ten (by omega)
  have l64 : 10 ^ k < 2 ^ 64 := Nat.lt_of_le_of_lt (Nat.pow_le_pow_right (by decide) hk.2) (by decide +kernel)
  have pT : 0 < 10 ^ k := Nat.pos_of_ne_zero (by simp)
  unfold rndM
  rw [← e10] at p dv
  generalize 10 ^ k = T at *
  have fd : (x.natAbs : Int).fdiv (T : Int) = ((x.natAbs / T : Nat) : Int) := nat_fdiv _ _
  have fm : (x.natAbs : Int).fmod (T : Int) = ((x.natAbs % T : Nat) : Int) := nat_fmod _ _
  obtain ⟨v, hv, hv2⟩ := @pone_more_eq rule hr (x.natAbs / T) (x.natAbs % T) T (decide (x < 0))
  have nin : fNotIn (.str rule) (.tup [.str "cut", .str "up", .str "half", .str "even", .str "floor", .str "ceil"]) = some (.bl false) := by
    rcases hr with rfl | rfl | rfl | rfl | rfl | rfl <;> rfl
  have kz : ¬ ((k : Int) ≤ 0) := by omega
  have kz2 : ¬ k = 0 := by omega
  have tz : ¬ T = 0 := by omega
  generalize (x.natAbs : Int) = X at *
  generalize x.natAbs / T = q at *
  generalize x.natAbs % T = r at *
  by_cases h : x < 0
  · rw [if_pos h]
    rw [decide_eq_true h] at hv hv2
    rw [if_pos rfl] at hv2
    rw [hv2]
    cases v <;> simp [m_prounded, -bAbs_i, nin, kz, kz2, p, a1, dv, fd, fm, tz, hv, h]
  · rw [if_neg h]
    rw [decide_eq_false h] at hv hv2
    rw [if_neg (by decide)] at hv2
    rw [hv2]
    cases v <;> simp [m_prounded, -bAbs_i, nin, kz, kz2, p, a1, dv, fd, fm, tz, hv, h]
@[simp] theorem mCallE_ap {f : MX → Res (MV × Env)} {e : MX} {r : Option MV} {ρ : Env} : mCallE f e (r :: ρ) = match f e with | .ok (v, _) => (if flatM v then .ok (v, r :: ρ) else .stuck) | _ => .stuck := nr rfl
theorem lsorts_TooLong (fs : List (Str × MV)) : ∃ ρ, f_lsorts ⟨"TooLong", fs⟩ = .ok (.str "TooLong", ρ) := ⟨_, rfl⟩
theorem lsorts_NoRule (fs : List (Str × MV)) : ∃ ρ, f_lsorts ⟨"NoRule", fs⟩ = .ok (.str "NoRule", ρ) := ⟨_, rfl⟩
theorem lsorts_Nought (fs : List (Str × MV)) : ∃ ρ, f_lsorts ⟨"Nought", fs⟩ = .ok (.str "Nought", ρ) := ⟨_, rfl⟩
theorem lsorts_NoFit (fs : List (Str × MV)) : ∃ ρ, f_lsorts ⟨"NoFit", fs⟩ = .ok (.str "NoFit", ρ) := ⟨_, rfl⟩
theorem log2_lt200 {a : Nat} (h : a < 2 ^ 200) : a.log2 < 200 := by
  by_cases z : a = 0
  · subst z; decide
  · exact (Nat.log2_lt z).mpr h
theorem divOk_wide {j : Int} (h : 0 < j) (h2 : j.natAbs < 2 ^ 200) : divOk j = true := by
  have := log2_lt200 h2
  unfold divOk
  rw [Bool.or_eq_true]
  right
  simp only [Bool.and_eq_true, decide_eq_true_eq]
  exact ⟨h, by omega⟩
structure TwW (L : List Str) : Prop where
  al : ("all_or_none" : Str) ∈ L
  no : ("none_or_all" : Str) ∈ L
  ot : ("other_twos" : Str) ∈ L
  th : ("ten_high" : Str) ∈ L
  tl : ("ten_low" : Str) ∈ L
  fi : ("fill" : Str) ∈ L
  na : ("not_all" : Str) ∈ L
  on : ("one_or_none" : Str) ∈ L
structure Ls (L : List Str) : Prop where
  ah : ("ahead_of_last" : Str) ∈ L
  la : ("last_figure" : Str) ∈ L
  ni : ("nine_less" : Str) ∈ L
  hi : ("high_half" : Str) ∈ L
  lo : ("low_half" : Str) ∈ L
  te : ("ten_or_none" : Str) ∈ L
  fi : ("five_on" : Str) ∈ L
  be : ("sign_below" : Str) ∈ L
theorem bls_map {α : Type} (f : α → Bool) : ∀ l : List α, blsOf (l.map fun p => .bl (f p)) = some (l.map f)
  | [] => rfl
  | p :: l => by
    have := bls_map f l
    simp [blsOf, this]
theorem ball_map {α : Type} (f : α → Bool) (l : List α) : bAll [.lst (l.map fun p => .bl (f p))] = some (.bl (l.all f)) := by
  show (blsOf _).map _ = _
  rw [bls_map]
  simp
def okN (N nt : Nat) : Rw → Bool
  | .put a v => decide (a < N) && decide (v < 256)
  | .look a k => decide (a < N) && decide (k < nt)
  | .copy a b => decide (a < N) && decide (b < N)
  | .add a b => decide (a < N) && decide (b < N)
  | .addc a b => decide (a < N) && decide (b < N)
  | .and_ a b => decide (a < N) && decide (b < N)
  | .or_ a b => decide (a < N) && decide (b < N)
  | .left a => decide (a < N)
  | .right a => decide (a < N)
  | .mark v => decide (v < 2)
def CellsN (N : Nat) (c : List Nat) : Prop := c.length = N ∧ ∀ i, cg c i < 256
theorem CellsN.set {N : Nat} {c : List Nat} (h : CellsN N c) {a v : Nat} (hv : v < 256) : CellsN N (c.set a v) := by
  refine ⟨by rw [List.length_set]; exact h.1, fun i => ?_⟩
  rw [cg_set]
  split
  · exact hv
  · exact h.2 i
def CR (c : List Nat) (m : Nat) (p : List Nat × Nat) (a : Nat) : Prop := Cells p.1 ∧ p.2 = m ∧ (∀ i, i < 252 → cg p.1 i = cg c i) ∧ cg p.1 252 = a
structure DrP (N : Nat) where
  tb : Nat → Nat → Nat
  nt : Nat
  rs : List Rw
  c : List Nat
  m : Nat
  h16 : nt ≤ 16
  tl : TabLt tb nt
  ok : rs.all (okN N nt) = true
  h48 : rs.length ≤ 48
  cn : CellsN N c
  m2 : m < 2
def okJ : Nat → MV → Bool
  | _, .non => true
  | _, .bl _ => true
  | _, .int _ => true
  | _, .str _ => true
  | n + 1, .tup xs => xs.all (okJ n) && decide (xs.length ≤ 1000)
  | _, _ => false
theorem ten_pos' (n : Nat) : (0 : Int) < 10 ^ n := Int.pow_pos (by decide)
abbrev TS := Int × Int × List MV
def tstep (o : Int) (s : TS) (t : Int) : TS := (if t * o ≤ s.1 then s.1 - t * o else s.1, if t * o ≤ s.1 then s.2.1 + t else s.2.1, s.2.2 ++ [.tup [.int t, .int (t * o), .bl (decide (t * o ≤ s.1))]])
def tfour (o a : Int) : TS := [8, 4, 2, 1].foldl (tstep o) (a, 0, [])
def tline (o a : Int) : MV := .tup [.int a, .tup (tfour o a).2.2, .int (tfour o a).2.1, .int (tfour o a).1]
def tstate (o : Int) (s : Int × List MV) (d : Nat) : Int × List MV := ((tfour o (10 * s.1 + d)).1, s.2 ++ [tline o (10 * s.1 + d)])
def trs (n : Nat) (o : Int) : List MV := ((digsB (TL.numL n).length n).foldl (tstate o) (0, [])).2
theorem four_small {x : Int} (h : x ∈ [(8 : Int), 4, 2, 1]) : -(2 ^ 64) < x ∧ x < 2 ^ 64 := by
  simp at h; omega
theorem ptried_eq (a o : Int) : f_ptried [.int a, .int o] = .ok (tline o a, []) := by
  refine mFn_ok ?_
  obtain ⟨⟨z', e⟩, hl⟩ := loop_junk (σ := TS) (β := Option MV × Option MV) (g := gSet 5) (b := b_ptried_0) (fun s z => [some (.int a), some (.int o), some (.int s.1), some (.int s.2.1), some (.own s.2.2), z.1, z.2]) MV.int (tstep o) (fun k s => s.2.2.length = k) [8, 4, 2, 1] (a, 0, []) (none, none) rfl (by
      rintro i s ⟨z1, z2⟩ x hx hi hlt
      have hm := mulOk_l (j := o) (four_small hx).1 (four_small hx).2
      have hz : s.2.2.length < sizeLine := by rw [sizeLine_eq, hi]; simp at hlt; omega
      refine ⟨by simp [tstep, hi], _, by simp; rfl, ?_⟩
      by_cases hc : x * o ≤ s.1
      · exact ⟨(some (.int x), some (.int (x * o))), by simp [b_ptried_0, hm, hz, hc, tstep, szOk_small]⟩
      · exact ⟨(some (.int x), some (.int (x * o))), by simp [b_ptried_0, hm, hz, hc, tstep, szOk_small]⟩)
  have e' : mLoop (gSet 5) b_ptried_0 [.int 8, .int 4, .int 2, .int 1] [some (.int a), some (.int o), some (.int a), some (.int 0), some (.own []), none, none] = _ := e
  simp [m_ptried, szOk_small, e']
  rfl
theorem tstate_len (o : Int) : ∀ (ds : List Nat) (s : Int × List MV), (ds.foldl (tstate o) s).2.length = s.2.length + ds.length
  | [], s => rfl
  | d :: ds, s => by
    rw [List.foldl_cons, tstate_len o ds]
    simp [tstate]
    omega
theorem line_rest (o a : Int) : fIx (tline o a) (.int 3) = some (.int (tfour o a).1) := rfl
theorem len_num (n : Nat) : (Str.ofString (toString ((n : Nat) : Int))).length = (TL.numL n).length := by
  rw [TL.len_tl, TL.tl_num]
theorem ptries_eq (n : Nat) (o : Int) (hn : n < 10 ^ 12) (ho : 0 < o ∧ o < 10 ^ 12) : f_ptries [.int n, .int o] = .ok (.tup (trs n o), []) := by
  refine mFn_ok ?_
  have hL : (TL.numL n).length ≤ 12 := TL.numL_len (by decide) hn
  have hlog : n.log2 < 1920 := log2_small (Nat.lt_trans hn (by decide))
  obtain ⟨⟨z', e⟩, hl⟩ := loop_junk (σ := Int × List MV) (β := Option MV × Option MV) (g := gSet 4) (b := b_ptries_0) (fun s z => [some (.int n), some (.int o), some (.own s.2), some (.int s.1), z.1, z.2]) (fun d : Nat => MV.int d) (tstate o) (fun k s => s.2.length = k) (digsB (TL.numL n).length n) (0, []) (none, none) rfl (by
      rintro i s ⟨z1, z2⟩ x hx hi hlt
      have hz : s.2.length < sizeLine := by rw [sizeLine_eq, hi]; rw [digsB_len] at hlt; omega
      refine ⟨by simp [tstate, hi], _, by simp; rfl, (some (.int x), some (tline o (10 * s.1 + x))), ?_⟩
      have h1 := ptried_eq (10 * s.1 + x) o
      have h2 := line_rest o (10 * s.1 + x)
      unfold tline at h1 h2
      simp [b_ptries_0, hz, tstate, mulOk_l, h1, tline])
  have h1 : ¬ (o = 0) := by omega
  have h2 := pfigures_of_eq n (TL.numL n).length (by omega)
  have h3 : (n : Int) < 1000000000000 := by omega
  have h4 : (0 : Int) ≤ n := by omega
  have h5 := len_num n
  simp at h5
  have h6 : o < 1000000000000 := by omega
  have h7 : szOk (TL.numL n).length = true := szOk_small (by omega)
  simp [m_ptries, h1, h3, h4, h6, ho.1, szOk_small, bStr, hlog, bLen, h5, h7, h2, e, trs]
def sdg (n i : Nat) : Nat := n / 10 ^ i % 10
def cy (a b : Nat) : Nat → Nat
  | 0 => 0
  | i + 1 => (sdg a i + sdg b i + cy a b i) / 10
def tt (a b i : Nat) : Nat := sdg a i + sdg b i + cy a b i
theorem sdg_lt (n i : Nat) : sdg n i < 10 := Nat.mod_lt _ (by decide)
theorem cy_le (a b : Nat) : ∀ i, cy a b i ≤ 1
  | 0 => by simp [cy]
  | i + 1 => by
    have := cy_le a b i
    have h1 := sdg_lt a i
    have h2 := sdg_lt b i
    show (sdg a i + sdg b i + cy a b i) / 10 ≤ 1
    omega
def val (f : Nat → Nat) : Nat → Nat
  | 0 => 0
  | i + 1 => val f i + f i * 16 ^ i
theorem digs_map (n : Nat) : ∀ k, digs k n = (List.range k).map (sdg n)
  | 0 => rfl
  | k + 1 => by rw [digs_append, digs_map n k, List.range_succ, List.map_append]; rfl
theorem val_fold (f : Nat → Nat) : ∀ (k acc : Nat), ((List.range k).map f).reverse.foldl (fun a d => a * 16 + d) acc = acc * 16 ^ k + val f k
  | 0, acc => by simp [val]
  | k + 1, acc => by
    rw [List.range_succ, List.map_append, List.reverse_append]
    simp only [List.map_cons, List.map_nil, List.reverse_cons, List.reverse_nil, List.nil_append, List.cons_append, List.foldl_cons]
    rw [val_fold f k]
    simp only [val, Nat.pow_succ, Nat.add_mul]
    rw [Nat.mul_assoc, Nat.mul_comm 16]
    omega
def more (a b : Nat) (i : Nat) : Nat := if 9 < tt a b i then 6 else 0
def why (t : Nat) : Str := if t < 10 then "none" else if t < 16 then "nine" else "carry"
def sline (a b i : Nat) : MV := .tup [.int (sdg a i), .int (sdg b i), .int (cy a b i), .int (tt a b i), .str (why (tt a b i)), .int (tt a b i % 10 : Nat), .int (cy a b (i + 1))]
def slines (a b k : Nat) : List MV := (List.range k).map (sline a b)
def paper (a b k : Nat) : MV := .tup [.int (val (sdg a) k + val (sdg b) k : Nat), .int (val (more a b) k), .int (val (fun i => tt a b i % 10) k), .int (cy a b k), .tup (slines a b k)]
theorem slines_succ (a b k : Nat) : slines a b (k + 1) = slines a b k ++ [sline a b k] := by simp [slines, List.range_succ]
theorem slines_len (a b k : Nat) : (slines a b k).length = k := by simp [slines]
theorem digsB_map (n k : Nat) : digsB k n = ((List.range k).map (sdg n)).reverse := by rw [digsB, digs_map]
theorem pnumber16_eq (ds : List Nat) : f_pnumber_by [.int 16, .lst (ds.map fun d : Nat => MV.int d)] = .ok (.int (ds.foldl (fun a d => a * 16 + d) 0 : Nat), []) := by
  refine mFn_ok ?_
  obtain ⟨⟨z', e⟩, _⟩ := loop_junk (σ := Nat) (β := Option MV) (g := gSet 3) (b := b_pnumber_by_0) (fun s z => [some (.int 16), some (.lst (ds.map fun d : Nat => MV.int d)), some (.int (s : Nat)), z]) (fun d : Nat => MV.int d) (fun a d => a * 16 + d) (fun _ _ => True) ds 0 none trivial (by
    intro i s z x hx _ _
    refine ⟨trivial, _, by simp; rfl, some (.int x), ?_⟩
    simp [b_pnumber_by_0, mulOk_r])
  simp at e
  simp [m_pnumber_by, e]
theorem zipM_range (f g : Nat → MV) (k : Nat) : zipM ((List.range k).map f) ((List.range k).map g) = (List.range k).map fun i => .tup [f i, g i] := by
  apply List.ext_getElem?
  intro i
  by_cases h : i < k
  · have h1 : ((List.range k).map f)[i]? = some (f i) := by simp [h]
    have h2 : ((List.range k).map g)[i]? = some (g i) := by simp [h]
    rw [zipM_get h1 h2]
    simp [h]
  · rw [List.getElem?_eq_none (by rw [zipM_len]; simp; omega), List.getElem?_eq_none (by simp; omega)]
theorem pwhy_eq (t : Nat) : f_pwhy_of [.int t] = .ok (.str (why t), []) := by
  refine mFn_ok ?_
  by_cases h1 : t < 10
  · have : (t : Int) < 10 := by omega
    simp [m_pwhy_of, why, h1, this]
  · have h1' : ¬ (t : Int) < 10 := by omega
    by_cases h2 : t < 16
    · have : (t : Int) < 16 := by omega
      simp [m_pwhy_of, why, h1, h1', h2, this]
    · have : ¬ (t : Int) < 16 := by omega
      simp [m_pwhy_of, why, h1, h1', h2, this]
theorem tt_int (a b i : Nat) : (sdg a i : Int) + sdg b i + cy a b i = (tt a b i : Nat) := by unfold tt; omega
theorem tt_div (a b i : Nat) : ((tt a b i : Nat) : Int).fdiv 10 = (cy a b (i + 1) : Nat) := by rw [show (10 : Int) = ((10 : Nat) : Int) from rfl, nat_fdiv]; rfl
theorem tt_mod (a b i : Nat) : ((tt a b i : Nat) : Int).fmod 10 = (tt a b i % 10 : Nat) := by rw [show (10 : Int) = ((10 : Nat) : Int) from rfl, nat_fmod]
theorem psum_lines_eq (a b k : Nat) (hk : k < 1000) : f_psum_lines [.lst ((digsB k a).map fun d : Nat => MV.int d), .lst ((digsB k b).map fun d : Nat => MV.int d)] = .ok (.tup (slines a b k), []) := by
  refine mFn_ok ?_
  obtain ⟨ρ', e, v4, v5, v6, v7, rfl⟩ := loop_nx (g := (gTp 2 (gsCons (gSet 4) (gsCons (gSet 5) (gsNil))))) (b := b_psum_lines_0) (ρ := [some (.lst ((digsB k a).map fun d : Nat => MV.int d)), some (.lst ((digsB k b).map fun d : Nat => MV.int d)), some (.own []), some (.int 0), none, none, none, none])
    (fun i ρ => ∃ v4 v5 v6 v7, ρ = [some (.lst ((digsB k a).map fun d : Nat => MV.int d)), some (.lst ((digsB k b).map fun d : Nat => MV.int d)), some (.own (slines a b i)), some (.int (cy a b i)), v4, v5, v6, v7]) ((List.range k).map fun i => .tup [.int (sdg a i), .int (sdg b i)]) ⟨none, none, none, none, by simp [slines, cy]⟩ (by
      rintro i x ρ hx ⟨v4, v5, v6, v7, rfl⟩
      have hi : i < k := by have := lt_get hx; simpa using this
      have hx' : x = .tup [.int (sdg a i), .int (sdg b i)] := by simp [hi] at hx; exact hx.symm
      subst hx'
      have hz : (slines a b i).length < sizeLine := by rw [sizeLine_eq, slines_len]; omega
      have h1 := tt_int a b i
      have h2 := tt_div a b i
      have h3 := tt_mod a b i
      have h4 := pwhy_eq (tt a b i)
      simp [b_psum_lines_0, h1, h2, h3, h4, hz, divOk, szOk_small, slines_succ, sline])
  have h1 : ((digsB k a).map fun d : Nat => MV.int d).reverse = (List.range k).map fun i => MV.int (sdg a i) := by rw [digsB_map, ← List.map_reverse, List.reverse_reverse, List.map_map]; rfl
  have h2 : ((digsB k b).map fun d : Nat => MV.int d).reverse = (List.range k).map fun i => MV.int (sdg b i) := by rw [digsB_map, ← List.map_reverse, List.reverse_reverse, List.map_map]; rfl
  have h3 := zipM_range (fun i => MV.int (sdg a i)) (fun i => MV.int (sdg b i)) k
  simp [-List.map_reverse, m_psum_lines, szOk_small, h1, h2, h3, e, slines_len]
theorem why_none (t : Nat) : (why t = "none") = (t < 10) := by
  unfold why
  have n1 : ¬ (("nine" : Str) = "none") := by decide
  have n2 : ¬ (("carry" : Str) = "none") := by decide
  by_cases h1 : t < 10
  · simp [h1]
  · by_cases h2 : t < 16
    · simp [h1, h2, n1]
    · simp [h1, h2, n2]
theorem lt_ten {n k : Nat} (h : n < 10 ^ k) : (n : Int) < 10 ^ k := by
  have := Int.ofNat_lt.mpr h
  simpa using this
theorem pguard_eq (k a b n : Nat) (hk : k < 100) (h : n < 10 ^ k) (v : Option MV) (r : Env) : b_psixes_0 ([some (.int k), some (.int a), some (.int b), some (.int n)] ++ r) = .ok (.nx, [some (.int k), some (.int a), some (.int b), some (.int n)] ++ r) := by
  have h1 := pten_eq (k := (k : Int)) (by omega) (by omega)
  have h2 := lt_ten h
  simp at h1
  simp [b_psixes_0, h1, h2]
theorem psixes_eq (k a b : Nat) (hk : 1 ≤ k ∧ k ≤ 12) (ha : a < 10 ^ k) (hb : b < 10 ^ k) : f_psixes [.int k, .int a, .int b] = .ok (paper a b k, []) := by
  refine mFn_ok ?_
  have g1 := pguard_eq k a b a (by omega) ha none [none, none, none, none, none, none]
  have g2 := pguard_eq k a b b (by omega) hb none [none, none, none, none, none, none]
  simp at g1 g2
  have f1 := pfigures_of_eq a k (by omega)
  have f2 := pfigures_of_eq b k (by omega)
  have f3 := psum_lines_eq a b k (by omega)
  obtain ⟨j, rfl⟩ : ∃ j, k = j + 1 := ⟨k - 1, by omega⟩
  have m1 : ((slines a b (j + 1)).reverse.map fun x => match x with | .tup [_, _, _, .int t, _, _, _] => MV.int (if 9 < t then 6 else 0) | _ => .non) = (((List.range (j + 1)).map (more a b)).reverse).map fun d : Nat => MV.int d := by
    rw [slines, ← List.map_reverse, List.map_map, ← List.map_reverse, List.map_map]
    refine List.map_congr_left fun i _ => ?_
    show MV.int (if 9 < ((tt a b i : Nat) : Int) then 6 else 0) = MV.int ((if 9 < tt a b i then 6 else 0 : Nat) : Int)
    by_cases h : 9 < tt a b i
    · have h' : 9 < (tt a b i : Int) := by omega
      simp [h, h']
    · have h' : ¬ 9 < (tt a b i : Int) := by omega
      simp [h, h']
  have m2 : ((slines a b (j + 1)).reverse.map fun x => match x with | .tup [_, _, _, _, _, .int t, _] => MV.int t | _ => .non) = (((List.range (j + 1)).map (fun i => tt a b i % 10)).reverse).map fun d : Nat => MV.int d := by
    rw [slines, ← List.map_reverse, List.map_map, ← List.map_reverse, List.map_map]
    rfl
  have c1 : ∀ v7 v8, mLcO (mItV (mRevA (mVar 6))) (.nm 9) mYes (mOp fMul (mC (.int 6)) (mBlt bInt (mCons (mOp fNe (mOp fIx (mVar 9) (mC (.int 4))) (mC (.str "none"))) (mNil)))) [9]
      [some (.int (j + 1 : Nat)), some (.int a), some (.int b), some (.int b), some (.lst ((digsB (j + 1) a).map fun d : Nat => MV.int d)), some (.lst ((digsB (j + 1) b).map fun d : Nat => MV.int d)), some (.tup (slines a b (j + 1))), v7, v8, none] =
      .ok (.own ((((List.range (j + 1)).map (more a b)).reverse).map fun d : Nat => MV.int d), [some (.int (j + 1 : Nat)), some (.int a), some (.int b), some (.int b), some (.lst ((digsB (j + 1) a).map fun d : Nat => MV.int d)), some (.lst ((digsB (j + 1) b).map fun d : Nat => MV.int d)), some (.tup (slines a b (j + 1))), v7, v8, none]) := by
    intro v7 v8
    rw [← m1]
    refine mLcO_map _ (by simp) (by simp [perAt]) ?_ (by rw [sizeLine_eq, List.length_reverse, slines_len]; omega)
    intro x hx
    obtain ⟨i, hi, rfl⟩ : ∃ i, i < j + 1 ∧ sline a b i = x := by simpa [slines] using hx
    refine ⟨_, by simp [setT, wipeM]; rfl, ?_, by simp [wipeM], by simp⟩
    have hw := why_none (tt a b i)
    by_cases h : tt a b i < 10
    · have h' : ¬ (9 < (tt a b i : Int)) := by omega
      simp [sline, hw, h, h', mulOk_l]
    · have h' : 9 < (tt a b i : Int) := by omega
      simp [sline, hw, h, h', mulOk_l]
  have c2 : ∀ v7 v8, mLcO (mItV (mRevA (mVar 6))) (.nm 9) mYes (mOp fIx (mVar 9) (mC (.int 5))) [9]
      [some (.int (j + 1 : Nat)), some (.int a), some (.int b), some (.int b), some (.lst ((digsB (j + 1) a).map fun d : Nat => MV.int d)), some (.lst ((digsB (j + 1) b).map fun d : Nat => MV.int d)), some (.tup (slines a b (j + 1))), v7, v8, none] =
      .ok (.own ((((List.range (j + 1)).map (fun i => tt a b i % 10)).reverse).map fun d : Nat => MV.int d), [some (.int (j + 1 : Nat)), some (.int a), some (.int b), some (.int b), some (.lst ((digsB (j + 1) a).map fun d : Nat => MV.int d)), some (.lst ((digsB (j + 1) b).map fun d : Nat => MV.int d)), some (.tup (slines a b (j + 1))), v7, v8, none]) := by
    intro v7 v8
    rw [← m2]
    refine mLcO_map _ (by simp) (by simp [perAt]) ?_ (by rw [sizeLine_eq, List.length_reverse, slines_len]; omega)
    intro x hx
    obtain ⟨i, hi, rfl⟩ : ∃ i, i < j + 1 ∧ sline a b i = x := by simpa [slines] using hx
    refine ⟨_, by simp [setT, wipeM]; rfl, ?_, by simp [wipeM], by simp⟩
    simp [sline]
  have n1 := pnumber16_eq (((List.range (j + 1)).map (more a b)).reverse)
  have n2 := pnumber16_eq (((List.range (j + 1)).map (fun i => tt a b i % 10)).reverse)
  have n3 := pnumber16_eq (digsB (j + 1) a)
  have n4 := pnumber16_eq (digsB (j + 1) b)
  rw [digsB_map] at n3 n4
  rw [val_fold] at n1 n2 n3 n4
  rw [← digsB_map] at n3 n4
  have last : atI (slines a b (j + 1)) (-1) = some (sline a b j) := by
    rw [atI_neg (by decide) (by rw [slines_len]; omega), slines_len, show ((-1 : Int) + (j + 1 : Nat)).toNat = j by omega]
    simp [slines]
  have k1 : (1 : Int) ≤ (j + 1 : Nat) := by omega
  have k2 : ((j + 1 : Nat) : Int) ≤ 12 := by omega
  generalize hr1 : ((List.range (j + 1)).map (more a b)).reverse.map (fun d : Nat => MV.int d) = r1 at c1 n1
  generalize hr2 : ((List.range (j + 1)).map (fun i => tt a b i % 10)).reverse.map (fun d : Nat => MV.int d) = r2 at c2 n2
  generalize hr3 : (digsB (j + 1) a).map (fun d : Nat => MV.int d) = r3 at c1 c2 f1 f3 n3
  generalize hr4 : (digsB (j + 1) b).map (fun d : Nat => MV.int d) = r4 at c1 c2 f2 f3 n4
  generalize hjj : ((j + 1 : Nat) : Int) = jj at *
  have last2 : fIx (sline a b j) (.int 6) = some (.int (cy a b (j + 1))) := rfl
  simp [m_psixes, k1, k2, g1, g2, f1, f2, f3, c1, c2, n1, n2, n3, n4, last, last2, szOk_small, mLoop, paper]
def pOk : Nat → MV → Bool
  | _, .int i => decide (i.natAbs.log2 < 1900)
  | _, .bl _ => true
  | _, .str _ => true
  | n + 1, .tup xs => xs.all (pOk n) && decide (xs.length ≤ 20)
  | _, _ => false
def jB : Nat → MV → MV → Bool
  | n + 1, .tup xs, .tup ys => decide (xs.length = ys.length) && (xs.zip ys).all fun p => jB n p.1 p.2
  | _, .int i, .int j => decide (i = j)
  | _, .bl a, .bl b => decide (a = b)
  | _, .str a, .str b => decide (a = b)
  | _, _, _ => false
def pl : MV → Bool
  | .own _ => false
  | .obj _ _ => false
  | .dow _ _ => false
  | .dot _ _ => false
  | _ => true
theorem mVar_pl {i : Nat} {ρ : Env} {x : MV} (h : pl x = true) (hi : ρ[i]? = some (some x)) : mVar i ρ = .ok (x, ρ) := by
  unfold mVar
  rw [hi]
  cases x <;> first | rfl | cases h
theorem fz_pl {x : MV} (h : pl x = true) : fz x = some x := by
  cases x <;> first | rfl | cases h
theorem okJ_pl {n : Nat} {x : MV} (h : okJ n x = true) : pl x = true := by
  cases x <;> first | rfl | (cases n <;> simp [okJ] at h)
theorem pOk_pl {n : Nat} {x : MV} (h : pOk n x = true) : pl x = true := by
  cases x <;> first | rfl | (cases n <;> simp [pOk] at h)
theorem pOk_okJ : ∀ (n : Nat) (x : MV), pOk n x = true → okJ n x = true
  | n, .int i, _ => by cases n <;> rfl
  | n, .bl i, _ => by cases n <;> rfl
  | n, .str i, _ => by cases n <;> rfl
  | 0, .tup xs, h => by simp [pOk] at h
  | n + 1, .tup xs, h => by
    simp only [pOk, okJ, Bool.and_eq_true, decide_eq_true_eq, List.all_eq_true] at h ⊢
    exact ⟨fun x hx => pOk_okJ n x (h.1 x hx), by omega⟩
  | n, .non, h => by cases n <;> simp [pOk] at h
  | n, .lst _, h => by cases n <;> simp [pOk] at h
  | n, .own _, h => by cases n <;> simp [pOk] at h
  | n, .raw _, h => by cases n <;> simp [pOk] at h
  | n, .scr _, h => by cases n <;> simp [pOk] at h
  | n, .fnc _, h => by cases n <;> simp [pOk] at h
  | n, .obj _ _, h => by cases n <;> simp [pOk] at h
  | n, .dct _ _, h => by cases n <;> simp [pOk] at h
  | n, .dow _ _, h => by cases n <;> simp [pOk] at h
  | n, .dot _ _, h => by cases n <;> simp [pOk] at h
theorem okJ_up : ∀ (n : Nat) (x : MV), okJ n x = true → okJ (n + 1) x = true
  | n, .non, _ => by cases n <;> rfl
  | n, .int i, _ => by cases n <;> rfl
  | n, .bl i, _ => by cases n <;> rfl
  | n, .str i, _ => by cases n <;> rfl
  | 0, .tup xs, h => by simp [okJ] at h
  | n + 1, .tup xs, h => by
    simp only [okJ, Bool.and_eq_true, decide_eq_true_eq, List.all_eq_true] at h ⊢
    exact ⟨fun x hx => okJ_up n x (h.1 x hx), h.2⟩
  | n, .lst _, h => by cases n <;> simp [okJ] at h
  | n, .own _, h => by cases n <;> simp [okJ] at h
  | n, .raw _, h => by cases n <;> simp [okJ] at h
  | n, .scr _, h => by cases n <;> simp [okJ] at h
  | n, .fnc _, h => by cases n <;> simp [okJ] at h
  | n, .obj _ _, h => by cases n <;> simp [okJ] at h
  | n, .dct _ _, h => by cases n <;> simp [okJ] at h
  | n, .dow _ _, h => by cases n <;> simp [okJ] at h
  | n, .dot _ _, h => by cases n <;> simp [okJ] at h
theorem okJ_le {n m : Nat} (h : n ≤ m) {x : MV} (hx : okJ n x = true) : okJ m x = true := by
  induction h with
  | refl => exact hx
  | step _ ih => exact okJ_up _ _ ih
theorem call2_pl {self : MF} {ρ : Env} {x y : MV} {b : Bool} (hx : pl x = true) (hy : pl y = true) (h2 : ρ[2]? = some (some x)) (h3 : ρ[3]? = some (some y)) (hs : self [x, y] = .ok (.bl b, [])) : mFz (mCall0 self (mCons (mVar 2) (mCons (mVar 3) (mNil)))) ρ = .ok (.bl b, ρ) := by
  have e : mCons (mVar 2) (mCons (mVar 3) mNil) ρ = .ok ([x, y], ρ) := by
    unfold mCons
    rw [mVar_pl hx h2]
    simp only [Res.bind]
    rw [mVar_pl hy h3]
    rfl
  unfold mFz mCall0
  rw [e]
  simp only [Res.bind]
  rw [hs]
  rfl
theorem zipM_pairs : ∀ (xs ys : List MV), zipM xs ys = (xs.zip ys).map fun p => .tup [p.1, p.2]
  | [], _ => rfl
  | _ :: _, [] => rfl
  | x :: xs, y :: ys => by
    have := zipM_pairs xs ys
    show MV.tup [x, y] :: zipM xs ys = _
    rw [this]; rfl
theorem just_any : ∀ (n : Nat) (F D : MV), okJ n F = true → pOk n D = true → mRec 4 [] m_ljust (n + 1) [F, D] = .ok (.bl (jB n F D), []) ∧ mRec 4 [] m_pis_just (n + 1) [F, D] = .ok (.bl (jB n F D), [])
  | n, F, .int j, hF, _ => by
    constructor
    · refine mFn_ok ?_
      cases F <;> first | (exfalso; cases n <;> simp [okJ] at hF; done) | (cases n <;> simp [m_ljust, bIsi, MV.kd, kdOf, Kd.isa, fIsN, MV.isN, jB])
    · refine mFn_ok ?_
      cases F <;> first | (exfalso; cases n <;> simp [okJ] at hF; done) | (cases n <;> simp [m_pis_just, bIsi, MV.kd, kdOf, Kd.isa, fIsN, MV.isN, jB])
  | n, F, .bl j, hF, _ => by
    constructor
    · refine mFn_ok ?_
      cases F <;> first | (exfalso; cases n <;> simp [okJ] at hF; done) | (cases n <;> simp [m_ljust, bIsi, MV.kd, kdOf, Kd.isa, fIsN, MV.isN, jB])
    · refine mFn_ok ?_
      cases F <;> first | (exfalso; cases n <;> simp [okJ] at hF; done) | (cases n <;> simp [m_pis_just, bIsi, MV.kd, kdOf, Kd.isa, fIsN, MV.isN, jB])
  | n, F, .str j, hF, _ => by
    constructor
    · refine mFn_ok ?_
      cases F <;> first | (exfalso; cases n <;> simp [okJ] at hF; done) | (cases n <;> simp [m_ljust, bIsi, MV.kd, kdOf, Kd.isa, fIsN, MV.isN, jB])
    · refine mFn_ok ?_
      cases F <;> first | (exfalso; cases n <;> simp [okJ] at hF; done) | (cases n <;> simp [m_pis_just, bIsi, MV.kd, kdOf, Kd.isa, fIsN, MV.isN, jB])
  | 0, F, .tup ys, _, h => by simp [pOk] at h
  | n + 1, F, .tup ys, hF, h => by
    simp only [pOk, Bool.and_eq_true, decide_eq_true_eq, List.all_eq_true] at h
    by_cases hT : ∃ xs, F = .tup xs
    · obtain ⟨xs, rfl⟩ := hT
      simp only [okJ, Bool.and_eq_true, decide_eq_true_eq, List.all_eq_true] at hF
      have sx : szOk xs.length = true := szOk_small (by omega)
      have sy : szOk ys.length = true := szOk_small (by omega)
      by_cases hl : xs.length = ys.length
      · have jb : jB (n + 1) (.tup xs) (.tup ys) = (xs.zip ys).all fun p => jB n p.1 p.2 := by
          show (decide (xs.length = ys.length) && _) = _
          rw [decide_eq_true hl, Bool.true_and]
        rw [jb]
        have lc : ∀ (self : MF), (∀ x y, okJ n x = true → pOk n y = true → self [x, y] = .ok (.bl (jB n x y), [])) → mLcO (mZip (mCons (mVar 0) (mCons (mVar 1) (mNil)))) (.tp [2, 3]) (mYes) (mFz (mCall0 self (mCons (mVar 2) (mCons (mVar 3) (mNil))))) [2, 3] [some (.tup xs), some (.tup ys), none, none] = .ok (.own ((xs.zip ys).map fun p => .bl (jB n p.1 p.2)), [some (.tup xs), some (.tup ys), none, none]) := by
          intro self hs
          have := mLcO_map (it := mZip (mCons (mVar 0) (mCons (mVar 1) (mNil)))) (g := .tp [2, 3]) (e := mFz (mCall0 self (mCons (mVar 2) (mCons (mVar 3) (mNil))))) (vs := [2, 3])
            (ρ := [some (.tup xs), some (.tup ys), none, none]) (ρ1 := [some (.tup xs), some (.tup ys), none, none]) (xs := (xs.zip ys).map fun p => .tup [p.1, p.2])
            (fun z => match z with | .tup [x, y] => .bl (jB n x y) | _ => .non) (by simp [zipM_pairs]) (by simp [perAt]) (by
              intro z hz
              obtain ⟨p, hp, rfl⟩ := List.mem_map.mp hz
              have hx := hF.1 p.1 (List.of_mem_zip hp).1
              have hy := h.1 p.2 (List.of_mem_zip hp).2
              refine ⟨[some (.tup xs), some (.tup ys), some p.1, some p.2], by simp [setT, setAll, wipeM], ?_, by simp [wipeM], by simp⟩
              exact call2_pl (okJ_pl hx) (pOk_pl hy) rfl rfl (hs _ _ hx hy)) (by rw [sizeLine_eq, List.length_map, List.length_zip]; omega)
          rw [List.map_map] at this
          exact this
        have ba := ball_map (fun p : MV × MV => jB n p.1 p.2) (xs.zip ys)
        have l1 := lc (mRec 4 [] m_ljust (n + 1)) fun x y hx hy => (just_any n x y hx hy).1
        have l2 := lc (mRec 4 [] m_pis_just (n + 1)) fun x y hx hy => (just_any n x y hx hy).2
        generalize (xs.zip ys).map (fun p => MV.bl (jB n p.1 p.2)) = L at *
        generalize (xs.zip ys).all (fun p => jB n p.1 p.2) = b at *
        constructor
        · refine mFn_ok ?_
          simp [m_ljust, bIsi, MV.kd, kdOf, Kd.isa, sx, sy, hl, l1, ba]
        · refine mFn_ok ?_
          simp [m_pis_just, bIsi, MV.kd, kdOf, Kd.isa, sx, sy, hl, l2, ba]
      · have jb : jB (n + 1) (.tup xs) (.tup ys) = false := by
          show (decide (xs.length = ys.length) && _) = _
          rw [decide_eq_false hl]; rfl
        rw [jb]
        have hl' : ¬ ((xs.length : Int) = ys.length) := by omega
        constructor
        · refine mFn_ok ?_
          simp [m_ljust, bIsi, MV.kd, kdOf, Kd.isa, sx, sy, hl, hl']
        · refine mFn_ok ?_
          simp [m_pis_just, bIsi, MV.kd, kdOf, Kd.isa, sx, sy, hl, hl']
    · have jb : jB (n + 1) F (.tup ys) = false := by
        cases F <;> first | rfl | exact absurd ⟨_, rfl⟩ hT
      rw [jb]
      constructor
      · refine mFn_ok ?_
        cases F <;> first | (exfalso; exact hT ⟨_, rfl⟩) | (exfalso; simp [okJ] at hF; done) | simp [m_ljust, bIsi, MV.kd, kdOf, Kd.isa]
      · refine mFn_ok ?_
        cases F <;> first | (exfalso; exact hT ⟨_, rfl⟩) | (exfalso; simp [okJ] at hF; done) | simp [m_pis_just, bIsi, MV.kd, kdOf, Kd.isa]
  | n, F, .non, _, h => by cases n <;> simp [pOk] at h
  | n, F, .lst _, _, h => by cases n <;> simp [pOk] at h
  | n, F, .own _, _, h => by cases n <;> simp [pOk] at h
  | n, F, .raw _, _, h => by cases n <;> simp [pOk] at h
  | n, F, .scr _, _, h => by cases n <;> simp [pOk] at h
  | n, F, .fnc _, _, h => by cases n <;> simp [pOk] at h
  | n, F, .obj _ _, _, h => by cases n <;> simp [pOk] at h
  | n, F, .dct _ _, _, h => by cases n <;> simp [pOk] at h
  | n, F, .dow _ _, _, h => by cases n <;> simp [pOk] at h
  | n, F, .dot _ _, _, h => by cases n <;> simp [pOk] at h
theorem pOk_up : ∀ (n : Nat) (x : MV), pOk n x = true → pOk (n + 1) x = true
  | n, .int i, h => by cases n <;> exact h
  | n, .bl i, _ => by cases n <;> rfl
  | n, .str i, _ => by cases n <;> rfl
  | 0, .tup xs, h => by simp [pOk] at h
  | n + 1, .tup xs, h => by
    simp only [pOk, Bool.and_eq_true, decide_eq_true_eq, List.all_eq_true] at h ⊢
    exact ⟨fun x hx => pOk_up n x (h.1 x hx), h.2⟩
  | n, .non, h => by cases n <;> simp [pOk] at h
  | n, .lst _, h => by cases n <;> simp [pOk] at h
  | n, .own _, h => by cases n <;> simp [pOk] at h
  | n, .raw _, h => by cases n <;> simp [pOk] at h
  | n, .scr _, h => by cases n <;> simp [pOk] at h
  | n, .fnc _, h => by cases n <;> simp [pOk] at h
  | n, .obj _ _, h => by cases n <;> simp [pOk] at h
  | n, .dct _ _, h => by cases n <;> simp [pOk] at h
  | n, .dow _ _, h => by cases n <;> simp [pOk] at h
  | n, .dot _ _, h => by cases n <;> simp [pOk] at h
theorem pOk_le {n m : Nat} (h : n ≤ m) {x : MV} (hx : pOk n x = true) : pOk m x = true := by
  induction h with
  | refl => exact hx
  | step _ ih => exact pOk_up _ _ ih
theorem looks_alike {n : Nat} (hn : n ≤ 7) {F D : MV} (hF : okJ 7 F = true) (hD : pOk n D = true) : f_ljust [F, D] = .ok (.bl (jB 7 F D), []) ∧ f_pis_just [F, D] = .ok (.bl (jB 7 F D), []) := just_any 7 F D hF (pOk_le hn hD)
def rndP (rule : Str) (x : Int) (k : Nat) : List MV :=
  [.int ((x.natAbs / 10 ^ k : Nat) : Int), .int ((x.natAbs % 10 ^ k / 10 ^ (k - 1) : Nat) : Int), .bl (decide (0 < x.natAbs % 10 ^ k % 10 ^ (k - 1))),
   .bl (decide (x.natAbs / 10 ^ k % 2 = 1)), .bl (decide (x < 0)), .bl (decide ((rndM rule x k).natAbs = x.natAbs / 10 ^ k + 1)), .int (rndM rule x k)]
theorem lg_ten {j : Nat} (hj : j ≤ 12) : 10 ^ j ≠ 0 ∧ (10 ^ j).log2 < 9000 := by
  have h1 : 10 ^ j ≤ 10 ^ 12 := Nat.pow_le_pow_right (by decide) hj
  have h0 : 0 < 10 ^ j := Nat.pos_of_ne_zero (by simp)
  have h2 : (10 ^ j).log2 ≤ (10 ^ 12).log2 := by
    rw [Nat.le_log2 (by decide)]
    exact Nat.le_trans (Nat.log2_self_le (by omega)) h1
  have h3 : (10 ^ 12 : Nat).log2 < 9000 := by decide +kernel
  exact ⟨by omega, by omega⟩
theorem bDivW_nn {a T : Nat} (h0 : T ≠ 0) (h : T.log2 < 9000) : bDivW [.int a, .int T] = some (.tup [.int ((a / T : Nat) : Int), .int ((a % T : Nat) : Int)]) := by
  have h1 : (0 : Int) < T := by omega
  simp [h1, h, h0]
theorem babs_nat (x : Int) : bAbs [.int x] = some (.int (x.natAbs : Int)) := by
  have e : (if x < 0 then -x else x) = (x.natAbs : Int) := by split <;> omega
  rw [bAbs_i, e]
theorem prounding_full {rule : Str} {k : Nat} (hk : 1 ≤ k ∧ k ≤ 12) (hr : IsRule rule) (x : Int) (hx : -1000000000000 < x ∧ x < 1000000000000) : f_prounding [.int x, .int k, .str rule] = .ok (.tup (rndP rule x k), []) := by
  refine mFn_ok ?_
  have a1 := babs_nat x
  have rd := @prounded_eq rule k ⟨hk.1, by omega⟩ hr x
  have p := @pten_eq (k : Int) (by omega) (by omega)
  have p1 := @pten_eq ((k : Int) - 1) (by omega) (by omega)
  rw [Int.toNat_natCast] at p
  rw [show ((k : Int) - 1).toNat = k - 1 by omega] at p1
  have c1 : ((10 ^ k : Nat) : Int) = (10 : Int) ^ k := by simp
  have c2 : ((10 ^ (k - 1) : Nat) : Int) = (10 : Int) ^ (k - 1) := by simp
  rw [← c1] at p
  rw [← c2] at p1
  obtain ⟨l1, l2⟩ := lg_ten hk.2
  obtain ⟨l3, l4⟩ := lg_ten (show k - 1 ≤ 12 by omega)
  have nin : fNotIn (.str rule) (.tup [.str "cut", .str "up", .str "half", .str "even", .str "floor", .str "ceil"]) = some (.bl false) := by
    rcases hr with rfl | rfl | rfl | rfl | rfl | rfl <;> rfl
  have d2 : divOk 2 = true := rfl
  have b1 : (1 : Int) ≤ k := by omega
  have b2 : (k : Int) ≤ 12 := by omega
  obtain ⟨x1, x2⟩ := hx
  have x3 : -(1000000000000 : Int) < x := x1
  unfold rndP
  obtain ⟨R, hR⟩ : ∃ R, rndM rule x k = R := ⟨_, rfl⟩
  rw [hR] at rd ⊢
  have aR := babs_nat R
  clear c1 c2
  have w1 := @bDivW_nn x.natAbs _ l1 l2
  have w2 := @bDivW_nn (x.natAbs % 10 ^ k) _ l3 l4
  generalize 10 ^ k = T at *
  generalize 10 ^ (k - 1) = T1 at *
  generalize (x.natAbs : Int) = X at *
  generalize x.natAbs / T = Q at *
  generalize x.natAbs % T = r at *
  generalize r / T1 = B at *
  generalize r % T1 = C at *
  have fq : (Q : Int).fmod 2 = ((Q % 2 : Nat) : Int) := nat_fmod _ 2
  have g1 : decide ((R.natAbs : Int) = (Q : Int) + 1) = decide (R.natAbs = Q + 1) := by
    by_cases h : R.natAbs = Q + 1
    · have : (R.natAbs : Int) = (Q : Int) + 1 := by omega
      rw [decide_eq_true h, decide_eq_true this]
    · have : ¬ (R.natAbs : Int) = (Q : Int) + 1 := by omega
      rw [decide_eq_false h, decide_eq_false this]
  generalize (R.natAbs : Int) = A at *
  generalize decide (R.natAbs = Q + 1) = G at *
  have g2 : decide ((Q : Int).fmod 2 = 1) = decide (Q % 2 = 1) := by
    rw [fq]
    by_cases h : Q % 2 = 1
    · rw [h]; rfl
    · have : Q % 2 = 0 := by omega
      rw [this]; rfl
  clear fq
  generalize decide (Q % 2 = 1) = G2 at *
  subst G
  subst G2
  simp [m_prounding, -bAbs_i, -bDivW_ii, nin, b1, b2, x1, x2, x3, rd, a1, p, p1, w1, w2, d2, aR, szOk_small]
theorem rndM_size (rule : Str) (x : Int) (k : Nat) (hx : x.natAbs < 1000000000000) : (rndM rule x k).natAbs < 2000000000000 := by
  unfold rndM
  have h := Nat.div_le_self x.natAbs (10 ^ k)
  split
  · have a := addM_le rule (x.natAbs / 10 ^ k) (x.natAbs % 10 ^ k) (10 ^ k) 1
    generalize addM rule (x.natAbs / 10 ^ k) (x.natAbs % 10 ^ k) (10 ^ k) 1 = A at *
    generalize x.natAbs / 10 ^ k = B at *
    rw [Int.natAbs_neg, Int.natAbs_natCast]
    omega
  · have a := addM_le rule (x.natAbs / 10 ^ k) (x.natAbs % 10 ^ k) (10 ^ k) 0
    generalize addM rule (x.natAbs / 10 ^ k) (x.natAbs % 10 ^ k) (10 ^ k) 0 = A at *
    generalize x.natAbs / 10 ^ k = B at *
    rw [Int.natAbs_natCast]
    omega
theorem log_of {n : Nat} (h : n < 2 ^ 100) : n.log2 < 1900 := by
  by_cases z : n = 0
  · rw [z]; decide
  · have := (Nat.log2_lt z).mpr h
    omega
theorem rndP_pOk (rule : Str) (x : Int) (k : Nat) (hx : x.natAbs < 1000000000000) : pOk 2 (.tup (rndP rule x k)) = true := by
  have e2 : (2 : Nat) ^ 100 = 1267650600228229401496703205376 := by decide
  have h1 := Nat.div_le_self x.natAbs (10 ^ k)
  have h2 := Nat.div_le_self (x.natAbs % 10 ^ k) (10 ^ (k - 1))
  have h3 := Nat.mod_le x.natAbs (10 ^ k)
  have h4 := rndM_size rule x k hx
  have l1 := log_of (n := x.natAbs / 10 ^ k) (by omega)
  have l2 := log_of (n := x.natAbs % 10 ^ k / 10 ^ (k - 1)) (by omega)
  have l3 := log_of (n := (rndM rule x k).natAbs) (by omega)
  unfold rndP
  generalize x.natAbs / 10 ^ k = A at *
  generalize x.natAbs % 10 ^ k / 10 ^ (k - 1) = B at *
  generalize rndM rule x k = R at *
  simp only [pOk, List.all_cons, List.all_nil, Bool.and_true, Bool.and_eq_true, decide_eq_true_eq, List.length_cons, List.length_nil, Int.natAbs_natCast]
  exact ⟨⟨l1, l2, trivial, trivial, trivial, trivial, l3⟩, by decide⟩
theorem psixes_long {m a b : Int} (h : ¬ (1 ≤ m ∧ m ≤ 12)) : f_psixes [.int m, .int a, .int b] = .exc ⟨"TooLong", [("number", .int m)]⟩ [] := by
  refine mFn_exc ?_
  by_cases h1 : 1 ≤ m
  · have h2 : ¬ m ≤ 12 := fun z => h ⟨h1, z⟩
    simp [m_psixes, h1, h2]
  · simp [m_psixes, h1]
theorem psixes_first {k : Nat} {a b : Int} (hk : 1 ≤ k ∧ k ≤ 12) (h : ¬ (0 ≤ a ∧ a < 10 ^ k)) : f_psixes [.int k, .int a, .int b] = .exc ⟨"NoFit", [("number", .int a)]⟩ [] := by
  refine mFn_exc ?_
  have p := @pten_eq (k : Int) (by omega) (by omega)
  rw [Int.toNat_natCast] at p
  generalize (10 : Int) ^ k = T at *
  have b1 : (1 : Int) ≤ k := by omega
  have b2 : (k : Int) ≤ 12 := by omega
  by_cases h1 : 0 ≤ a
  · have h2 : ¬ a < T := fun z => h ⟨h1, z⟩
    simp [m_psixes, b_psixes_0, mLoop, p, b1, b2, h1, h2, szOk_small]
  · simp [m_psixes, b_psixes_0, mLoop, p, b1, b2, h1, szOk_small]
theorem psixes_second {k : Nat} {a b : Int} (hk : 1 ≤ k ∧ k ≤ 12) (ha : 0 ≤ a ∧ a < 10 ^ k) (h : ¬ (0 ≤ b ∧ b < 10 ^ k)) : f_psixes [.int k, .int a, .int b] = .exc ⟨"NoFit", [("number", .int b)]⟩ [] := by
  refine mFn_exc ?_
  have p := @pten_eq (k : Int) (by omega) (by omega)
  rw [Int.toNat_natCast] at p
  generalize (10 : Int) ^ k = T at *
  have b1 : (1 : Int) ≤ k := by omega
  have b2 : (k : Int) ≤ 12 := by omega
  by_cases h1 : 0 ≤ b
  · have h2 : ¬ b < T := fun z => h ⟨h1, z⟩
    simp [m_psixes, b_psixes_0, mLoop, p, b1, b2, ha.1, ha.2, h1, h2, szOk_small]
  · simp [m_psixes, b_psixes_0, mLoop, p, b1, b2, ha.1, ha.2, h1, szOk_small]
theorem ptries_nought {a : Int} : f_ptries [.int a, .int 0] = .exc ⟨"Nought", []⟩ [] := by
  refine mFn_exc ?_
  simp [m_ptries]
theorem ptries_first {a b : Int} (hb : ¬ b = 0) (h : ¬ (0 ≤ a ∧ a < 1000000000000)) : f_ptries [.int a, .int b] = .exc ⟨"NoFit", [("number", .int a)]⟩ [] := by
  refine mFn_exc ?_
  by_cases h1 : 0 ≤ a
  · have h2 : ¬ a < 1000000000000 := fun z => h ⟨h1, z⟩
    simp [m_ptries, hb, h1, h2]
  · simp [m_ptries, hb, h1]
theorem ptries_second {a b : Int} (hb : ¬ b = 0) (ha : 0 ≤ a ∧ a < 1000000000000) (h : ¬ (0 < b ∧ b < 1000000000000)) : f_ptries [.int a, .int b] = .exc ⟨"NoFit", [("number", .int b)]⟩ [] := by
  refine mFn_exc ?_
  by_cases h1 : 0 < b
  · have h2 : ¬ b < 1000000000000 := fun z => h ⟨h1, z⟩
    simp [m_ptries, hb, ha.1, ha.2, h1, h2]
  · simp [m_ptries, hb, ha.1, ha.2, h1]
def rulesM : MV := .tup [(.str "cut"), (.str "up"), (.str "half"), (.str "even"), (.str "floor"), (.str "ceil")]
theorem prounding_rule {x y : Int} {rule : Str} (h : fNotIn (.str rule) rulesM = some (.bl true)) : f_prounding [.int x, .int y, .str rule] = .exc ⟨"NoRule", [("rule", .str rule)]⟩ [] := by
  refine mFn_exc ?_
  unfold rulesM at h
  simp [m_prounding, h]
theorem prounding_long {x y : Int} {rule : Str} (hr : IsRule rule) (h : ¬ (1 ≤ y ∧ y ≤ 12)) : f_prounding [.int x, .int y, .str rule] = .exc ⟨"TooLong", [("number", .int y)]⟩ [] := by
  refine mFn_exc ?_
  have nin : fNotIn (.str rule) (.tup [.str "cut", .str "up", .str "half", .str "even", .str "floor", .str "ceil"]) = some (.bl false) := by
    rcases hr with rfl | rfl | rfl | rfl | rfl | rfl <;> rfl
  by_cases h1 : 1 ≤ y
  · have h2 : ¬ y ≤ 12 := fun z => h ⟨h1, z⟩
    simp [m_prounding, nin, h1, h2]
  · simp [m_prounding, nin, h1]
theorem prounding_nofit {x y : Int} {rule : Str} (hr : IsRule rule) (hy : 1 ≤ y ∧ y ≤ 12) (h : ¬ (-1000000000000 < x ∧ x < 1000000000000)) : f_prounding [.int x, .int y, .str rule] = .exc ⟨"NoFit", [("number", .int x)]⟩ [] := by
  refine mFn_exc ?_
  have nin : fNotIn (.str rule) (.tup [.str "cut", .str "up", .str "half", .str "even", .str "floor", .str "ceil"]) = some (.bl false) := by
    rcases hr with rfl | rfl | rfl | rfl | rfl | rfl <;> rfl
  by_cases h1 : -1000000000000 < x
  · have h2 : ¬ x < 1000000000000 := fun z => h ⟨h1, z⟩
    simp [m_prounding, nin, hy.1, hy.2, h1, h2]
  · simp [m_prounding, nin, hy.1, hy.2, h1]
theorem sixes_hold_exc {P : MV} (hP : okJ 7 P = true) {e : MX} {a b c : Int} (h : f_psixes [.int a, .int b, .int c] = .exc e []) : f_psixes_hold [.int a, .int b, .int c, P] = .exc e [] := by
  refine mFn_exc ?_
  cases P <;> first | (exfalso; simp [okJ] at hP; done) | simp [m_psixes_hold, h]
theorem tries_hold_exc {P : MV} (hP : okJ 7 P = true) {e : MX} {a b : Int} (h : f_ptries [.int a, .int b] = .exc e []) : f_ptries_hold [.int a, .int b, P] = .exc e [] := by
  refine mFn_exc ?_
  cases P <;> first | (exfalso; simp [okJ] at hP; done) | simp [m_ptries_hold, h]
theorem rounding_hold_exc {P : MV} (hP : okJ 7 P = true) {e : MX} {a b : Int} {c : Str} (h : f_prounding [.int a, .int b, .str c] = .exc e []) : f_prounding_holds [.int a, .int b, .str c, P] = .exc e [] := by
  refine mFn_exc ?_
  cases P <;> first | (exfalso; simp [okJ] at hP; done) | simp [m_prounding_holds, h]
theorem sixes_hold_ok {P D : MV} (hP : okJ 7 P = true) {n : Nat} (hn : n ≤ 7) (hD : pOk n D = true) {a b c : Int} (h : f_psixes [.int a, .int b, .int c] = .ok (D, [])) : ∃ z, f_psixes_hold [.int a, .int b, .int c, P] = .ok (.bl z, []) := by
  have la := (@looks_alike n hn P D hP hD).2
  refine ⟨jB 7 P D, mFn_ok ?_⟩
  cases P <;> first | (exfalso; simp [okJ] at hP; done) | (cases D <;> first | (exfalso; cases n <;> simp [pOk] at hD; done) | simp [m_psixes_hold, h, la])
theorem tries_hold_ok {P D : MV} (hP : okJ 7 P = true) {n : Nat} (hn : n ≤ 7) (hD : pOk n D = true) {a b : Int} (h : f_ptries [.int a, .int b] = .ok (D, [])) : ∃ z, f_ptries_hold [.int a, .int b, P] = .ok (.bl z, []) := by
  have la := (@looks_alike n hn P D hP hD).2
  refine ⟨jB 7 P D, mFn_ok ?_⟩
  cases P <;> first | (exfalso; simp [okJ] at hP; done) | (cases D <;> first | (exfalso; cases n <;> simp [pOk] at hD; done) | simp [m_ptries_hold, h, la])
theorem rounding_hold_ok {P D : MV} (hP : okJ 7 P = true) {n : Nat} (hn : n ≤ 7) (hD : pOk n D = true) {a b : Int} {c : Str} (h : f_prounding [.int a, .int b, .str c] = .ok (D, [])) : ∃ z, f_prounding_holds [.int a, .int b, .str c, P] = .ok (.bl z, []) := by
  have la := (@looks_alike n hn P D hP hD).2
  refine ⟨jB 7 P D, mFn_ok ?_⟩
  cases P <;> first | (exfalso; simp [okJ] at hP; done) | (cases D <;> first | (exfalso; cases n <;> simp [pOk] at hD; done) | simp [m_prounding_holds, h, la])
def lenOf : MV → MV
  | .int i => .int (Str.ofString (toString i)).length
  | .str s => .int s.length
  | _ => .non
def gOk : MV → Bool
  | .int i => decide (i.natAbs.log2 < 1920)
  | .str s => decide (s.length ≤ 1000)
  | _ => false
theorem lens_comp {w : Int} {G : List MV} (hG : ∀ x ∈ G, gOk x = true) (hl : G.length ≤ 10) :
    mLcO (mItV (mVar 1)) (.nm 5) (mYes) (mBlt bLen (mCons (mBlt bStrA (mCons (mVar 5) (mNil))) (mNil))) [5] [some (.int w), some (.tup G), some .non, none, none, none] = .ok (.own (G.map lenOf), [some (.int w), some (.tup G), some .non, none, none, none]) := by
  refine mLcO_map lenOf (by simp) (by simp [perAt]) ?_ (by rw [sizeLine_eq]; omega)
  intro x hx
  have g := hG x hx
  refine ⟨[some (.int w), some (.tup G), some .non, none, none, some x], by simp [setT, wipeM], ?_, by simp [wipeM], by simp⟩
  cases x <;> first | (exfalso; simp [gOk] at g; done) | skip
  · rename_i i
    simp only [gOk] at g
    have f : szOk (Str.ofString (toString i)).length = true := by
      rw [szOk_iff]; exact int_text_fits (of_decide_eq_true g)
    obtain ⟨S, hS⟩ : ∃ S, Str.ofString (toString i) = S := ⟨_, rfl⟩
    have e1 : bStrA [.int i] = some (.str S) := by
      show (if decide (i.natAbs.log2 < 1920) then some (MV.str (Str.ofString (toString i))) else none) = _
      rw [if_pos g, hS]
    rw [hS] at f
    have e2 : lenOf (.int i) = .int S.length := by
      show MV.int (Str.ofString (toString i)).length = _
      rw [hS]
    rw [e2]
    simp [-bStrA_i, e1, f]
  · rename_i s
    simp only [gOk, decide_eq_true_eq] at g
    have f : szOk s.length = true := szOk_small (by omega)
    simp [f, lenOf]
theorem ints_lens : ∀ {G : List MV}, (∀ x ∈ G, gOk x = true) → ∃ bs, intsOf (G.map lenOf) = some bs
  | [], _ => ⟨_, rfl⟩
  | x :: G, h => by
    obtain ⟨bs, e⟩ := ints_lens (G := G) fun y hy => h y (List.mem_cons_of_mem _ hy)
    have g := h x (List.mem_cons_self ..)
    cases x <;> first | (exfalso; simp [gOk] at g; done) | exact ⟨_, by rw [List.map_cons]; simp only [lenOf, intsOf, e]; rfl⟩
theorem paper5 (S : Int) : ∃ P, okJ 7 P = true ∧ fz P = some P ∧ atI [MV.non, .int 7, .tup [], .str "paper", .tup [.int 1, .tup [.int 2]]] (S.fmod 5) = some P := by
  have h1 := fmod_ge' (a := S) (b := 5) (by decide)
  have h2 := fmod_lt' (a := S) (b := 5) (by decide)
  generalize S.fmod 5 = q at *
  rcases (show q = 0 ∨ q = 1 ∨ q = 2 ∨ q = 3 ∨ q = 4 by omega) with rfl | rfl | rfl | rfl | rfl <;> exact ⟨_, rfl, rfl, rfl⟩
theorem lref_head {w : Int} {G : List MV} (hG : ∀ x ∈ G, gOk x = true) (hl : G.length ≤ 10) :
    ∃ P, okJ 7 P = true ∧ fz P = some P ∧ ∃ S, bSum [.lst (G.map lenOf)] = some (.int S) ∧ atI [MV.non, .int 7, .tup [], .str "paper", .tup [.int 1, .tup [.int 2]]] (S.fmod 5) = some P := by
  obtain ⟨bs, e⟩ := ints_lens hG
  obtain ⟨P, h1, h2, h3⟩ := paper5 bs.sum
  exact ⟨P, h1, h2, bs.sum, by show (intsOf _).map _ = _; rw [e]; rfl, h3⟩
theorem lref_ok {w : Int} {G : List MV} (hG : ∀ x ∈ G, gOk x = true) (hl : G.length ≤ 10)
    (h : ∀ P, okJ 7 P = true → b_lrefused4_0 [some (.int w), some (.tup G), some .non, some P, none, none] = .ok (.nx, [some (.int w), some (.tup G), some .non, some P, none, none])) : f_lrefused4 [.int w, .tup G] = .ok (.non, []) := by
  refine mFn_ok ?_
  obtain ⟨P, hP, hf, S, hS, hat⟩ := @lref_head w G hG hl
  have hb := h P hP
  have key := @lens_comp w G hG hl
  generalize G.map lenOf = L at *
  have d5 : divOk 5 = true := rfl
  cases P <;> first | (exfalso; simp [okJ] at hP; done) | simp [m_lrefused4, key, hS, hat, d5, szOk_small, hb]
theorem lref_number {w : Int} {G : List MV} (hG : ∀ x ∈ G, gOk x = true) (hl : G.length ≤ 10) {c : Str} {v : Int} (hc : c = "NoFit" ∨ c = "TooLong")
    (h : ∀ P, okJ 7 P = true → b_lrefused4_0 [some (.int w), some (.tup G), some .non, some P, none, none] = .exc ⟨c, [("number", .int v)]⟩ [some (.int w), some (.tup G), some .non, some P, none, none]) : f_lrefused4 [.int w, .tup G] = .ok (.tup [.str c, .int v], []) := by
  refine mFn_ok ?_
  obtain ⟨P, hP, hf, S, hS, hat⟩ := @lref_head w G hG hl
  have hb := h P hP
  have key := @lens_comp w G hG hl
  generalize G.map lenOf = L at *
  have d5 : divOk 5 = true := rfl
  obtain ⟨ρ, hs⟩ : ∃ ρ, f_lsorts ⟨c, [("number", .int v)]⟩ = .ok (.str c, ρ) := by
    rcases hc with rfl | rfl
    · exact lsorts_NoFit _
    · exact lsorts_TooLong _
  have lk : List.lookup c [(Str.ofString "NoFit", true), (Str.ofString "NoRule", false), (Str.ofString "Nought", false), (Str.ofString "TooLong", true)] = some true := by
    rcases hc with rfl | rfl <;> decide +kernel
  have tr : ∀ (mh : MX → MS) cs (a b d e f g : Option MV), handN 4 ⟨c, [("number", .int v)]⟩ [a, b, d, e, f, g] (([("NoFit", true), ("NoRule", false), ("Nought", false), ("TooLong", true)], mh) :: cs) = endM 4 (mh ⟨c, [("number", .int v)]⟩ [a, b, d, e, none, g]) := fun mh cs a b d e f g => handN_yes lk (by show 4 < 6; decide) rfl
  have lk3 : List.lookup (Str.ofString "number") [(Str.ofString "number", MV.int v)] = some (.int v) := by simp [List.lookup]
  cases P <;> first | (exfalso; simp [okJ] at hP; done) | simp [m_lrefused4, key, hS, hat, d5, szOk_small, hb, tr, hs, lk3, flatM]
theorem lref_nought {w : Int} {G : List MV} (hG : ∀ x ∈ G, gOk x = true) (hl : G.length ≤ 10)
    (h : ∀ P, okJ 7 P = true → b_lrefused4_0 [some (.int w), some (.tup G), some .non, some P, none, none] = .exc ⟨"Nought", []⟩ [some (.int w), some (.tup G), some .non, some P, none, none]) : f_lrefused4 [.int w, .tup G] = .ok (.tup [.str "Nought", .int 0], []) := by
  refine mFn_ok ?_
  obtain ⟨P, hP, hf, S, hS, hat⟩ := @lref_head w G hG hl
  have hb := h P hP
  have key := @lens_comp w G hG hl
  generalize G.map lenOf = L at *
  have d5 : divOk 5 = true := rfl
  obtain ⟨ρ, hs⟩ := lsorts_Nought []
  have lk : List.lookup (Str.ofString "Nought") [(Str.ofString "NoFit", true), (Str.ofString "NoRule", false), (Str.ofString "Nought", false), (Str.ofString "TooLong", true)] = some false := by decide +kernel
  have lk2 : List.lookup (Str.ofString "Nought") [(Str.ofString "NoRule", false), (Str.ofString "Nought", true)] = some true := by decide +kernel
  have tr : ∀ (mh : MX → MS) cs (a b d e f g : Option MV), handN 4 ⟨"Nought", []⟩ [a, b, d, e, f, g] (([("NoFit", true), ("NoRule", false), ("Nought", false), ("TooLong", true)], mh) :: cs) = handN 4 ⟨"Nought", []⟩ [a, b, d, e, f, g] cs := fun mh cs a b d e f g => handN_no lk
  have tr2 : ∀ (mh : MX → MS) cs (a b d e f g : Option MV), handN 4 ⟨"Nought", []⟩ [a, b, d, e, f, g] (([("NoRule", false), ("Nought", true)], mh) :: cs) = endM 4 (mh ⟨"Nought", []⟩ [a, b, d, e, none, g]) := fun mh cs a b d e f g => handN_yes lk2 (by show 4 < 6; decide) rfl
  cases P <;> first | (exfalso; simp [okJ] at hP; done) | simp [m_lrefused4, key, hS, hat, d5, szOk_small, hb, tr, tr2, hs, flatM]
theorem lref_rule {w : Int} {G : List MV} (hG : ∀ x ∈ G, gOk x = true) (hl : G.length ≤ 10) {r : Str}
    (h : ∀ P, okJ 7 P = true → b_lrefused4_0 [some (.int w), some (.tup G), some .non, some P, none, none] = .exc ⟨"NoRule", [("rule", .str r)]⟩ [some (.int w), some (.tup G), some .non, some P, none, none]) : f_lrefused4 [.int w, .tup G] = .ok (.tup [.str "NoRule", .str r], []) := by
  refine mFn_ok ?_
  obtain ⟨P, hP, hf, S, hS, hat⟩ := @lref_head w G hG hl
  have hb := h P hP
  have key := @lens_comp w G hG hl
  generalize G.map lenOf = L at *
  have d5 : divOk 5 = true := rfl
  obtain ⟨ρ, hs⟩ := lsorts_NoRule [("rule", .str r)]
  have lk : List.lookup (Str.ofString "NoRule") [(Str.ofString "NoFit", true), (Str.ofString "NoRule", false), (Str.ofString "Nought", false), (Str.ofString "TooLong", true)] = some false := by decide +kernel
  have lk2 : List.lookup (Str.ofString "NoRule") [(Str.ofString "NoRule", false), (Str.ofString "Nought", true)] = some false := by decide +kernel
  have lk4 : List.lookup (Str.ofString "NoRule") [(Str.ofString "NoRule", true)] = some true := by decide +kernel
  have tr : ∀ (mh : MX → MS) cs (a b d e f g : Option MV), handN 4 ⟨"NoRule", [("rule", .str r)]⟩ [a, b, d, e, f, g] (([("NoFit", true), ("NoRule", false), ("Nought", false), ("TooLong", true)], mh) :: cs) = handN 4 ⟨"NoRule", [("rule", .str r)]⟩ [a, b, d, e, f, g] cs := fun mh cs a b d e f g => handN_no lk
  have tr2 : ∀ (mh : MX → MS) cs (a b d e f g : Option MV), handN 4 ⟨"NoRule", [("rule", .str r)]⟩ [a, b, d, e, f, g] (([("NoRule", false), ("Nought", true)], mh) :: cs) = handN 4 ⟨"NoRule", [("rule", .str r)]⟩ [a, b, d, e, f, g] cs := fun mh cs a b d e f g => handN_no lk2
  have tr3 : ∀ (mh : MX → MS) cs (a b d e f g : Option MV), handN 4 ⟨"NoRule", [("rule", .str r)]⟩ [a, b, d, e, f, g] (([("NoRule", true)], mh) :: cs) = endM 4 (mh ⟨"NoRule", [("rule", .str r)]⟩ [a, b, d, e, none, g]) := fun mh cs a b d e f g => handN_yes lk4 (by show 4 < 6; decide) rfl
  have lk3 : List.lookup (Str.ofString "rule") [(Str.ofString "rule", MV.str r)] = some (.str r) := by simp [List.lookup]
  cases P <;> first | (exfalso; simp [okJ] at hP; done) | simp [m_lrefused4, key, hS, hat, d5, szOk_small, hb, tr, tr2, tr3, hs, lk3, flatM]
theorem sixes_num (m a b : Int) {c0 : Str} {v : Int} (hc : c0 = "NoFit" ∨ c0 = "TooLong") (hG : ∀ x ∈ ([.int m, .int a, .int b] : List MV), gOk x = true) (h : f_psixes [.int m, .int a, .int b] = .exc ⟨c0, [("number", .int v)]⟩ []) : f_lrefused4 [.int 0, .tup [.int m, .int a, .int b]] = .ok (.tup [.str c0, .int v], []) ∧ f_lrefused4 [.int 1, .tup [.int m, .int a, .int b]] = .ok (.tup [.str c0, .int v], []) := by
  refine ⟨lref_number hG (by simp) hc fun P hP => ?_, lref_number hG (by simp) hc fun P hP => ?_⟩
  · simp [b_lrefused4_0, h]
  · have h2 := sixes_hold_exc hP h
    cases P <;> first | (exfalso; simp [okJ] at hP; done) | simp [b_lrefused4_0, h2]
theorem sixes_told (m a b : Int) (hG : ∀ x ∈ ([.int m, .int a, .int b] : List MV), gOk x = true) {n : Nat} (hn : n ≤ 7) {D : MV} (hD : pOk n D = true) (h : f_psixes [.int m, .int a, .int b] = .ok (D, [])) : f_lrefused4 [.int 0, .tup [.int m, .int a, .int b]] = .ok (.non, []) ∧ f_lrefused4 [.int 1, .tup [.int m, .int a, .int b]] = .ok (.non, []) := by
  refine ⟨lref_ok hG (by simp) fun P hP => ?_, lref_ok hG (by simp) fun P hP => ?_⟩
  · cases D <;> first | (exfalso; cases n <;> simp [pOk] at hD; done) | simp [b_lrefused4_0, h, fz_pl (okJ_pl (okJ_le hn (pOk_okJ n _ hD)))]
  · obtain ⟨z, h2⟩ := sixes_hold_ok hP hn hD h
    cases P <;> first | (exfalso; simp [okJ] at hP; done) | simp [b_lrefused4_0, h2]
theorem tries_num (a b : Int) {c0 : Str} {v : Int} (hc : c0 = "NoFit" ∨ c0 = "TooLong") (hG : ∀ x ∈ ([.int a, .int b] : List MV), gOk x = true) (h : f_ptries [.int a, .int b] = .exc ⟨c0, [("number", .int v)]⟩ []) : f_lrefused4 [.int 2, .tup [.int a, .int b]] = .ok (.tup [.str c0, .int v], []) ∧ f_lrefused4 [.int 3, .tup [.int a, .int b]] = .ok (.tup [.str c0, .int v], []) := by
  refine ⟨lref_number hG (by simp) hc fun P hP => ?_, lref_number hG (by simp) hc fun P hP => ?_⟩
  · simp [b_lrefused4_0, h]
  · have h2 := tries_hold_exc hP h
    cases P <;> first | (exfalso; simp [okJ] at hP; done) | simp [b_lrefused4_0, h2]
theorem tries_nought (a b : Int) (hG : ∀ x ∈ ([.int a, .int b] : List MV), gOk x = true) (h : f_ptries [.int a, .int b] = .exc ⟨"Nought", []⟩ []) : f_lrefused4 [.int 2, .tup [.int a, .int b]] = .ok (.tup [.str "Nought", .int 0], []) ∧ f_lrefused4 [.int 3, .tup [.int a, .int b]] = .ok (.tup [.str "Nought", .int 0], []) := by
  refine ⟨lref_nought hG (by simp) fun P hP => ?_, lref_nought hG (by simp) fun P hP => ?_⟩
  · simp [b_lrefused4_0, h]
  · have h2 := tries_hold_exc hP h
    cases P <;> first | (exfalso; simp [okJ] at hP; done) | simp [b_lrefused4_0, h2]
theorem tries_told (a b : Int) (hG : ∀ x ∈ ([.int a, .int b] : List MV), gOk x = true) {n : Nat} (hn : n ≤ 7) {D : MV} (hD : pOk n D = true) (h : f_ptries [.int a, .int b] = .ok (D, [])) : f_lrefused4 [.int 2, .tup [.int a, .int b]] = .ok (.non, []) ∧ f_lrefused4 [.int 3, .tup [.int a, .int b]] = .ok (.non, []) := by
  refine ⟨lref_ok hG (by simp) fun P hP => ?_, lref_ok hG (by simp) fun P hP => ?_⟩
  · cases D <;> first | (exfalso; cases n <;> simp [pOk] at hD; done) | simp [b_lrefused4_0, h, fz_pl (okJ_pl (okJ_le hn (pOk_okJ n _ hD)))]
  · obtain ⟨z, h2⟩ := tries_hold_ok hP hn hD h
    cases P <;> first | (exfalso; simp [okJ] at hP; done) | simp [b_lrefused4_0, h2]
theorem rounding_num (a b : Int) (c : Str) {c0 : Str} {v : Int} (hc : c0 = "NoFit" ∨ c0 = "TooLong") (hG : ∀ x ∈ ([.int a, .int b, .str c] : List MV), gOk x = true) (h : f_prounding [.int a, .int b, .str c] = .exc ⟨c0, [("number", .int v)]⟩ []) : f_lrefused4 [.int 4, .tup [.int a, .int b, .str c]] = .ok (.tup [.str c0, .int v], []) ∧ f_lrefused4 [.int 5, .tup [.int a, .int b, .str c]] = .ok (.tup [.str c0, .int v], []) := by
  refine ⟨lref_number hG (by simp) hc fun P hP => ?_, lref_number hG (by simp) hc fun P hP => ?_⟩
  · simp [b_lrefused4_0, h]
  · have h2 := rounding_hold_exc hP h
    cases P <;> first | (exfalso; simp [okJ] at hP; done) | simp [b_lrefused4_0, h2]
theorem rounding_rule (a b : Int) (c : Str) {v : Str} (hG : ∀ x ∈ ([.int a, .int b, .str c] : List MV), gOk x = true) (h : f_prounding [.int a, .int b, .str c] = .exc ⟨"NoRule", [("rule", .str v)]⟩ []) : f_lrefused4 [.int 4, .tup [.int a, .int b, .str c]] = .ok (.tup [.str "NoRule", .str v], []) ∧ f_lrefused4 [.int 5, .tup [.int a, .int b, .str c]] = .ok (.tup [.str "NoRule", .str v], []) := by
  refine ⟨lref_rule hG (by simp) fun P hP => ?_, lref_rule hG (by simp) fun P hP => ?_⟩
  · simp [b_lrefused4_0, h]
  · have h2 := rounding_hold_exc hP h
    cases P <;> first | (exfalso; simp [okJ] at hP; done) | simp [b_lrefused4_0, h2]
theorem rounding_told (a b : Int) (c : Str) (hG : ∀ x ∈ ([.int a, .int b, .str c] : List MV), gOk x = true) {n : Nat} (hn : n ≤ 7) {D : MV} (hD : pOk n D = true) (h : f_prounding [.int a, .int b, .str c] = .ok (D, [])) : f_lrefused4 [.int 4, .tup [.int a, .int b, .str c]] = .ok (.non, []) ∧ f_lrefused4 [.int 5, .tup [.int a, .int b, .str c]] = .ok (.non, []) := by
  refine ⟨lref_ok hG (by simp) fun P hP => ?_, lref_ok hG (by simp) fun P hP => ?_⟩
  · cases D <;> first | (exfalso; cases n <;> simp [pOk] at hD; done) | simp [b_lrefused4_0, h, fz_pl (okJ_pl (okJ_le hn (pOk_okJ n _ hD)))]
  · obtain ⟨z, h2⟩ := rounding_hold_ok hP hn hD h
    cases P <;> first | (exfalso; simp [okJ] at hP; done) | simp [b_lrefused4_0, h2]
theorem feq_due {c : Str} {x : MV} (hc : okD 20 (.str c) = true) (hx : okD 20 x = true) : fEq (.tup [.str c, x]) (.tup [.str c, x]) = some (.bl true) := fEq_tt (by simp [hc, hx])
theorem feq_nf (v : Int) : fEq (.tup [.str (Str.ofString "NoFit"), .int v]) (.tup [.str (Str.ofString "NoFit"), .int v]) = some (.bl true) := feq_due (by decide +kernel) (by simp)
theorem feq_tl (v : Int) : fEq (.tup [.str (Str.ofString "TooLong"), .int v]) (.tup [.str (Str.ofString "TooLong"), .int v]) = some (.bl true) := feq_due (by decide +kernel) (by simp)
theorem feq_no (v : Int) : fEq (.tup [.str (Str.ofString "Nought"), .int v]) (.tup [.str (Str.ofString "Nought"), .int v]) = some (.bl true) := feq_due (by decide +kernel) (by simp)
theorem gOk_int {v : Int} (h : v.natAbs < 2 ^ 200) : gOk (.int v) = true := by
  simp only [gOk, decide_eq_true_eq]
  by_cases z : v.natAbs = 0
  · rw [z]; decide
  · have := (Nat.log2_lt z).mpr h
    omega
theorem gOk3 {a b c : MV} (ha : gOk a = true) (hb : gOk b = true) (hc : gOk c = true) : ∀ x ∈ [a, b, c], gOk x = true := by
  intro x hx
  simp only [List.mem_cons, List.not_mem_nil, or_false] at hx
  rcases hx with rfl | rfl | rfl <;> assumption
theorem gOk2 {a b : MV} (ha : gOk a = true) (hb : gOk b = true) : ∀ x ∈ [a, b], gOk x = true := by
  intro x hx
  simp only [List.mem_cons, List.not_mem_nil, or_false] at hx
  rcases hx with rfl | rfl <;> assumption
theorem lbeyond_ok {most way far : Int} (hw : 0 ≤ way ∧ way < 4) (hf : 0 ≤ far) (hm : 0 ≤ most) : ∃ v : Int, f_lbeyond [.int most, .int way, .int far] = .ok (.int v, []) ∧ ¬ (0 ≤ v ∧ v < most + 1) ∧ v.natAbs ≤ most.natAbs + far.natAbs + 1 := by
  rcases (show way = 0 ∨ way = 1 ∨ way = 2 ∨ way = 3 by omega) with rfl | rfl | rfl | rfl
  · exact ⟨most + 1, mFn_ok ⟨_, by simp [m_lbeyond, szOk_small]; rfl⟩, by omega, by omega⟩
  · exact ⟨-1, mFn_ok ⟨_, by simp [m_lbeyond, szOk_small]; rfl⟩, by omega, by omega⟩
  · exact ⟨most + 1 + far, mFn_ok ⟨_, by simp [m_lbeyond, szOk_small]; rfl⟩, by omega, by omega⟩
  · exact ⟨-1 - far, mFn_ok ⟨_, by simp [m_lbeyond, szOk_small]; rfl⟩, by omega, by omega⟩
theorem far_lt {far : Int} (h : 0 ≤ far ∧ far < 10 ^ 39) : far.natAbs < 10 ^ 39 := by
  have e : ((10 ^ 39 : Nat) : Int) = (10 : Int) ^ 39 := by simp
  generalize (10 : Nat) ^ 39 = N at *
  omega
theorem big200 : 10 ^ 39 + 10 ^ 12 + 1000 < 2 ^ 200 := by decide
theorem tooLong_at {w far : Int} (hw : 0 ≤ w ∧ w < 4) (hf : 0 ≤ far) : ∃ v : Int, atI [MV.int 0, .int 13, .int (-1), .int (13 + far)] w = some (.int v) ∧ ¬ (1 ≤ v ∧ v ≤ 12) ∧ v.natAbs ≤ far.natAbs + 13 := by
  rcases (show w = 0 ∨ w = 1 ∨ w = 2 ∨ w = 3 by omega) with rfl | rfl | rfl | rfl
  · exact ⟨0, rfl, by omega, by omega⟩
  · exact ⟨13, rfl, by omega, by omega⟩
  · exact ⟨-1, rfl, by omega, by omega⟩
  · exact ⟨13 + far, rfl, by omega, by omega⟩
theorem lsixes_refused_ok {am ways one other far : Int} {k : Nat} (hk : 1 ≤ k ∧ k ≤ 12) (hw : 0 ≤ ways ∧ ways < 64) (hf : 0 ≤ far ∧ far < 10 ^ 39)
    (pp : ∀ a b : Nat, a < 10 ^ k → b < 10 ^ k → ∃ D, pOk 3 D = true ∧ f_psixes [.int k, .int a, .int b] = .ok (D, [])) : f_lsixes_refused [.int am, .int ways, .int k, .int one, .int other, .int far] = .ok (.bl true, []) := by
  have hfn := far_lt hf
  have p := @lten_eq (k : Int) (by omega) (by omega)
  rw [Int.toNat_natCast] at p
  have hp := ten_pos' k
  have eT : ((10 ^ k : Nat) : Int) = (10 : Int) ^ k := by simp
  have c12 : 10 ^ k ≤ 10 ^ 12 := Nat.pow_le_pow_right (by decide) hk.2
  have bg := big200
  have dT : divOk ((10 : Int) ^ k) = true := divOk_ten (by omega)
  have F1 := fun a b h => @psixes_first k a b hk h
  have F2 := fun a b h h2 => @psixes_second k a b hk h h2
  rw [← eT] at p hp dT
  simp only [← eT] at F1 F2
  clear eT
  generalize 10 ^ k = T at *
  have w1a := fmod_ge' (a := ways) (b := 4) (by decide)
  have w1b := fmod_lt' (a := ways) (b := 4) (by decide)
  have w2a := fmod_ge' (a := ways.fdiv 4) (b := 4) (by decide)
  have w2b := fmod_lt' (a := ways.fdiv 4) (b := 4) (by decide)
  have w3 : 0 ≤ ways.fdiv 16 ∧ ways.fdiv 16 < 4 := by
    rw [Int.fdiv_eq_ediv_of_nonneg _ (by decide)]; omega
  obtain ⟨v1, e1, n1, z1⟩ := @lbeyond_ok ((T : Int) - 1) (ways.fmod 4) far ⟨w1a, w1b⟩ hf.1 (by omega)
  obtain ⟨v2, e2, n2, z2⟩ := @lbeyond_ok ((T : Int) - 1) ((ways.fdiv 4).fmod 4) (far + 7) ⟨w2a, w2b⟩ (by omega) (by omega)
  obtain ⟨v3, e3, n3, z3⟩ := @tooLong_at (ways.fdiv 16) far w3 hf.1
  have a1 := fmod_ge' (a := one) hp
  have a2 := fmod_lt' (a := one) hp
  have b1 := fmod_ge' (a := other) hp
  have b2 := fmod_lt' (a := other) hp
  generalize hA : one.fmod (T : Int) = A at *
  generalize hB : other.fmod (T : Int) = B at *
  generalize hW1 : ways.fmod 4 = W1 at *
  generalize hW2 : (ways.fdiv 4).fmod 4 = W2 at *
  have gk : gOk (.int (k : Int)) = true := gOk_int (by omega)
  have gA : gOk (.int A) = true := gOk_int (by omega)
  have gB : gOk (.int B) = true := gOk_int (by omega)
  have g1 : gOk (.int v1) = true := gOk_int (by omega)
  have g2 : gOk (.int v2) = true := gOk_int (by omega)
  have g3 : gOk (.int v3) = true := gOk_int (by omega)
  have d2 : divOk 2 = true := rfl
  have d4 : divOk 4 = true := rfl
  have d16 : divOk 16 = true := rfl
  have nz : ¬ T = 0 := by omega
  rw [show (T : Int) - 1 + 1 = T by omega] at n1 n2
  refine mFn_ok ?_
  by_cases p3 : (am.fdiv 4).fmod 2 = 1
  · by_cases p2 : (am.fdiv 2).fmod 2 = 1 <;> by_cases p1 : am.fmod 2 = 1
    · have r := sixes_num v3 v2 v1 (.inr rfl) (gOk3 g3 g2 g1) (psixes_long n3)
      simp [m_lsixes_refused, p, hA, hB, hW1, hW2, dT, d2, d4, d16, nz, e1, e2, e3, p1, p2, p3, szOk_small, r.1, r.2, feq_nf, feq_tl]
    · have r := sixes_num v3 v2 B (.inr rfl) (gOk3 g3 g2 gB) (psixes_long n3)
      simp [m_lsixes_refused, p, hA, hB, hW1, hW2, dT, d2, d4, d16, nz, e1, e2, e3, p1, p2, p3, szOk_small, r.1, r.2, feq_nf, feq_tl]
    · have r := sixes_num v3 A v1 (.inr rfl) (gOk3 g3 gA g1) (psixes_long n3)
      simp [m_lsixes_refused, p, hA, hB, hW1, hW2, dT, d2, d4, d16, nz, e1, e2, e3, p1, p2, p3, szOk_small, r.1, r.2, feq_nf, feq_tl]
    · have r := sixes_num v3 A B (.inr rfl) (gOk3 g3 gA gB) (psixes_long n3)
      simp [m_lsixes_refused, p, hA, hB, hW1, hW2, dT, d2, d4, d16, nz, e1, e2, e3, p1, p2, p3, szOk_small, r.1, r.2, feq_nf, feq_tl]
  · by_cases p2 : (am.fdiv 2).fmod 2 = 1 <;> by_cases p1 : am.fmod 2 = 1
    · have r := sixes_num k v2 v1 (.inl rfl) (gOk3 gk g2 g1) (F1 _ _ n2)
      simp [m_lsixes_refused, p, hA, hB, hW1, hW2, dT, d2, d4, d16, nz, e1, e2, e3, p1, p2, p3, szOk_small, r.1, r.2, feq_nf, feq_tl]
    · have r := sixes_num k v2 B (.inl rfl) (gOk3 gk g2 gB) (F1 _ _ n2)
      simp [m_lsixes_refused, p, hA, hB, hW1, hW2, dT, d2, d4, d16, nz, e1, e2, e3, p1, p2, p3, szOk_small, r.1, r.2, feq_nf, feq_tl]
    · have r := sixes_num k A v1 (.inl rfl) (gOk3 gk gA g1) (F2 _ _ ⟨a1, a2⟩ n1)
      simp [m_lsixes_refused, p, hA, hB, hW1, hW2, dT, d2, d4, d16, nz, e1, e2, e3, p1, p2, p3, szOk_small, r.1, r.2, feq_nf, feq_tl]
    · obtain ⟨a, rfl⟩ := Int.eq_ofNat_of_zero_le a1
      obtain ⟨b, rfl⟩ := Int.eq_ofNat_of_zero_le b1
      obtain ⟨D, hD, hs⟩ := pp a b (by omega) (by omega)
      have r := sixes_told k a b (gOk3 gk gA gB) (show 3 ≤ 7 by decide) hD hs
      simp [m_lsixes_refused, p, hA, hB, hW1, hW2, dT, d2, d4, d16, nz, e1, e2, e3, p1, p2, p3, szOk_small, r.1, r.2, feq_nf, feq_tl]
theorem ltries_refused_ok {am ways one other far : Int} (ho : 0 ≤ one ∧ one < 1000000000000) (hw : 0 ≤ ways ∧ ways < 64) (hf : 0 ≤ far ∧ far < 10 ^ 39)
    (pp : ∀ (n : Nat) (o : Int), n < 10 ^ 12 → 0 < o ∧ o < 10 ^ 12 → ∃ D, pOk 4 D = true ∧ f_ptries [.int n, .int o] = .ok (D, [])) : f_ltries_refused [.int am, .int ways, .int one, .int other, .int far] = .ok (.bl true, []) := by
  have hfn := far_lt hf
  have bg := big200
  have e12 : (10 : Nat) ^ 12 = 1000000000000 := by decide
  have e12i : (10 : Int) ^ 12 = 1000000000000 := by decide
  rw [e12] at bg
  have w1a := fmod_ge' (a := ways) (b := 4) (by decide)
  have w1b := fmod_lt' (a := ways) (b := 4) (by decide)
  have w2a := fmod_ge' (a := ways.fdiv 4) (b := 4) (by decide)
  have w2b := fmod_lt' (a := ways.fdiv 4) (b := 4) (by decide)
  obtain ⟨v1, e1, n1, z1⟩ := @lbeyond_ok 999999999999 (ways.fmod 4) far ⟨w1a, w1b⟩ hf.1 (by omega)
  obtain ⟨v2, e2, n2, z2⟩ := @lbeyond_ok 999999999999 ((ways.fdiv 4).fmod 4) (far + 7) ⟨w2a, w2b⟩ (by omega) (by omega)
  rw [show (999999999999 : Int) + 1 = 1000000000000 by decide] at n1 n2
  have b1 := fmod_ge' (a := other) (b := 999999999999) (by decide)
  have b2 := fmod_lt' (a := other) (b := 999999999999) (by decide)
  generalize hB : other.fmod 999999999999 = B at *
  generalize hW1 : ways.fmod 4 = W1 at *
  generalize hW2 : (ways.fdiv 4).fmod 4 = W2 at *
  have gA : gOk (.int one) = true := gOk_int (by omega)
  have gB : gOk (.int (1 + B)) = true := gOk_int (by omega)
  have g0 : gOk (.int 0) = true := gOk_int (by decide)
  have g1 : gOk (.int v1) = true := gOk_int (by omega)
  have g2 : gOk (.int v2) = true := gOk_int (by omega)
  have d2 : divOk 2 = true := rfl
  have d4 : divOk 4 = true := rfl
  have d9 : divOk 999999999999 = true := rfl
  have fp12 : fPow (.int 10) (.int 12) = some (.int 1000000000000) := rfl
  have v1z : ¬ v1 = 0 := fun z => n1 ⟨by omega, by omega⟩
  have Bz : ¬ 1 + B = 0 := by omega
  have n1' : ¬ (0 < v1 ∧ v1 < 1000000000000) := fun z => n1 ⟨by omega, z.2⟩
  refine mFn_ok ?_
  by_cases p3 : (am.fdiv 4).fmod 2 = 1
  · by_cases p2 : (am.fdiv 2).fmod 2 = 1 <;> by_cases p1 : am.fmod 2 = 1
    · have r := tries_nought v2 0 (gOk2 g2 g0) ptries_nought
      simp [m_ltries_refused, fp12, hB, hW1, hW2, d2, d4, d9, e1, e2, p1, p2, p3, szOk_small, r.1, r.2, feq_no]
    · have r := tries_nought v2 0 (gOk2 g2 g0) ptries_nought
      simp [m_ltries_refused, fp12, hB, hW1, hW2, d2, d4, d9, e1, e2, p1, p2, p3, szOk_small, r.1, r.2, feq_no]
    · have r := tries_nought one 0 (gOk2 gA g0) ptries_nought
      simp [m_ltries_refused, fp12, hB, hW1, hW2, d2, d4, d9, e1, e2, p1, p2, p3, szOk_small, r.1, r.2, feq_no]
    · have r := tries_nought one 0 (gOk2 gA g0) ptries_nought
      simp [m_ltries_refused, fp12, hB, hW1, hW2, d2, d4, d9, e1, e2, p1, p2, p3, szOk_small, r.1, r.2, feq_no]
  · by_cases p2 : (am.fdiv 2).fmod 2 = 1 <;> by_cases p1 : am.fmod 2 = 1
    · have r := tries_num v2 v1 (.inl rfl) (gOk2 g2 g1) (ptries_first v1z n2)
      simp [m_ltries_refused, fp12, hB, hW1, hW2, d2, d4, d9, e1, e2, p1, p2, p3, szOk_small, r.1, r.2, feq_nf]
    · have r := tries_num v2 (1 + B) (.inl rfl) (gOk2 g2 gB) (ptries_first Bz n2)
      simp [m_ltries_refused, fp12, hB, hW1, hW2, d2, d4, d9, e1, e2, p1, p2, p3, szOk_small, r.1, r.2, feq_nf]
    · have r := tries_num one v1 (.inl rfl) (gOk2 gA g1) (ptries_second v1z ho n1')
      simp [m_ltries_refused, fp12, hB, hW1, hW2, d2, d4, d9, e1, e2, p1, p2, p3, szOk_small, r.1, r.2, feq_nf]
    · obtain ⟨a, rfl⟩ := Int.eq_ofNat_of_zero_le ho.1
      obtain ⟨D, hD, hs⟩ := pp a (1 + B) (by omega) (by omega)
      have r := tries_told a (1 + B) (gOk2 gA gB) (show 4 ≤ 7 by decide) hD hs
      simp [m_ltries_refused, fp12, hB, hW1, hW2, d2, d4, d9, e1, e2, p1, p2, p3, szOk_small, r.1, r.2]
theorem bad_rule {rule : Str} (hr : IsRule rule) {w : Int} (hw : 0 ≤ w ∧ w < 4) : ∃ r : Str, atI [MV.str (rule ++ Str.ofString "x"), .str (cutS rule (some 1) none), .str (Str.ofString ""), .str (Str.ofString "Half")] w = some (.str r) ∧ fNotIn (.str r) rulesM = some (.bl true) ∧ okD 20 (.str r) = true ∧ r.length ≤ 1000 := by
  rcases (show w = 0 ∨ w = 1 ∨ w = 2 ∨ w = 3 by omega) with rfl | rfl | rfl | rfl <;> rcases hr with rfl | rfl | rfl | rfl | rfl | rfl <;> exact ⟨_, rfl, rfl, by decide +kernel, by decide +kernel⟩
theorem nofit_at {w far : Int} (hw : 0 ≤ w ∧ w < 4) (hf : 0 ≤ far) : ∃ v : Int, atI [MV.int 1000000000000, .int (-1000000000000), .int (1000000000000 + far), .int (-1000000000000 - far)] w = some (.int v) ∧ ¬ (-1000000000000 < v ∧ v < 1000000000000) ∧ v.natAbs ≤ far.natAbs + 1000000000000 := by
  rcases (show w = 0 ∨ w = 1 ∨ w = 2 ∨ w = 3 by omega) with rfl | rfl | rfl | rfl
  · exact ⟨_, rfl, by omega, by omega⟩
  · exact ⟨_, rfl, by omega, by omega⟩
  · exact ⟨_, rfl, by omega, by omega⟩
  · exact ⟨_, rfl, by omega, by omega⟩
theorem lrounding_refused_ok {am ways num far : Int} {k : Nat} {rule : Str} (hr : IsRule rule) (ho : 0 ≤ num ∧ num < 1000000000000) (hk : 1 ≤ k ∧ k ≤ 12) (hw : 0 ≤ ways ∧ ways < 64) (hf : 0 ≤ far ∧ far < 10 ^ 39) : f_lrounding_refused [.int am, .int ways, .int num, .int k, .str rule, .int far] = .ok (.bl true, []) := by
  have hfn := far_lt hf
  have bg := big200
  have e12 : (10 : Nat) ^ 12 = 1000000000000 := by decide
  rw [e12] at bg
  have w1a := fmod_ge' (a := ways) (b := 4) (by decide)
  have w1b := fmod_lt' (a := ways) (b := 4) (by decide)
  have w2a := fmod_ge' (a := ways.fdiv 4) (b := 4) (by decide)
  have w2b := fmod_lt' (a := ways.fdiv 4) (b := 4) (by decide)
  have w3 : 0 ≤ ways.fdiv 16 ∧ ways.fdiv 16 < 4 := by
    rw [Int.fdiv_eq_ediv_of_nonneg _ (by decide)]; omega
  obtain ⟨v1, e1, n1, z1⟩ := @nofit_at (ways.fmod 4) far ⟨w1a, w1b⟩ hf.1
  obtain ⟨v2, e2, n2, z2⟩ := @tooLong_at ((ways.fdiv 4).fmod 4) far ⟨w2a, w2b⟩ hf.1
  obtain ⟨r3, e3, n3, o3, z3⟩ := @bad_rule rule hr (ways.fdiv 16) w3
  generalize hW1 : ways.fmod 4 = W1 at *
  generalize hW2 : (ways.fdiv 4).fmod 4 = W2 at *
  generalize hW3 : ways.fdiv 16 = W3 at *
  obtain ⟨x, hx, hx1⟩ : ∃ x : Int, (if ways.fmod 2 = 1 then 0 - num else num) = x ∧ (-1000000000000 < x ∧ x < 1000000000000) := ⟨_, rfl, by split <;> omega⟩
  have gx : gOk (.int x) = true := gOk_int (by omega)
  have gk : gOk (.int (k : Int)) = true := gOk_int (by omega)
  have g1 : gOk (.int v1) = true := gOk_int (by omega)
  have g2 : gOk (.int v2) = true := gOk_int (by omega)
  have rl : rule.length ≤ 100 := by rcases hr with rfl | rfl | rfl | rfl | rfl | rfl <;> decide +kernel
  have gr : gOk (.str rule) = true := by simp only [gOk, decide_eq_true_eq]; omega
  have g3 : gOk (.str r3) = true := by simp only [gOk, decide_eq_true_eq]; exact z3
  have lx : (Str.ofString "x").length = 1 := by decide +kernel
  have szr : szOk (rule.length + 1) = true := szOk_small (by omega)
  have szl : szOk rule.length = true := szOk_small (by omega)
  have d2 : divOk 2 = true := rfl
  have d4 : divOk 4 = true := rfl
  have d16 : divOk 16 = true := rfl
  have fp12 : fPow (.int 10) (.int 12) = some (.int 1000000000000) := rfl
  have feq_nr : fEq (.tup [.str (Str.ofString "NoRule"), .str r3]) (.tup [.str (Str.ofString "NoRule"), .str r3]) = some (.bl true) := feq_due (by decide +kernel) o3
  refine mFn_ok ?_
  by_cases p4 : ways.fmod 2 = 1 <;> (try simp [p4] at hx) <;> subst hx
  · by_cases p3 : (am.fdiv 4).fmod 2 = 1
    · by_cases p2 : (am.fdiv 2).fmod 2 = 1 <;> by_cases p1 : am.fmod 2 = 1
      · have r := rounding_rule v1 v2 r3 (gOk3 g1 g2 g3) (prounding_rule n3)
        simp [m_lrounding_refused, hW1, hW2, hW3, d2, d4, d16, e1, e2, e3, p1, p2, p3, p4, fp12, szOk_small, szr, szl, lx, r.1, r.2, feq_nr]
      · have r := rounding_rule (-num) v2 r3 (gOk3 gx g2 g3) (prounding_rule n3)
        simp [m_lrounding_refused, hW1, hW2, hW3, d2, d4, d16, e1, e2, e3, p1, p2, p3, p4, fp12, szOk_small, szr, szl, lx, r.1, r.2, feq_nr]
      · have r := rounding_rule v1 k r3 (gOk3 g1 gk g3) (prounding_rule n3)
        simp [m_lrounding_refused, hW1, hW2, hW3, d2, d4, d16, e1, e2, e3, p1, p2, p3, p4, fp12, szOk_small, szr, szl, lx, r.1, r.2, feq_nr]
      · have r := rounding_rule (-num) k r3 (gOk3 gx gk g3) (prounding_rule n3)
        simp [m_lrounding_refused, hW1, hW2, hW3, d2, d4, d16, e1, e2, e3, p1, p2, p3, p4, fp12, szOk_small, szr, szl, lx, r.1, r.2, feq_nr]
    · by_cases p2 : (am.fdiv 2).fmod 2 = 1 <;> by_cases p1 : am.fmod 2 = 1
      · have r := rounding_num v1 v2 rule (.inr rfl) (gOk3 g1 g2 gr) (prounding_long hr n2)
        simp [m_lrounding_refused, hW1, hW2, hW3, d2, d4, d16, e1, e2, e3, p1, p2, p3, p4, fp12, szOk_small, szr, szl, lx, r.1, r.2, feq_tl]
      · have r := rounding_num (-num) v2 rule (.inr rfl) (gOk3 gx g2 gr) (prounding_long hr n2)
        simp [m_lrounding_refused, hW1, hW2, hW3, d2, d4, d16, e1, e2, e3, p1, p2, p3, p4, fp12, szOk_small, szr, szl, lx, r.1, r.2, feq_tl]
      · have r := rounding_num v1 k rule (.inl rfl) (gOk3 g1 gk gr) (prounding_nofit hr (by omega) n1)
        simp [m_lrounding_refused, hW1, hW2, hW3, d2, d4, d16, e1, e2, e3, p1, p2, p3, p4, fp12, szOk_small, szr, szl, lx, r.1, r.2, feq_nf]
      · have r := rounding_told (-num) k rule (gOk3 gx gk gr) (show 2 ≤ 7 by decide) (rndP_pOk rule ((-num)) k (by omega)) (prounding_full hk hr ((-num)) (by omega))
        simp [m_lrounding_refused, hW1, hW2, hW3, d2, d4, d16, e1, e2, e3, p1, p2, p3, p4, fp12, szOk_small, szr, szl, lx, r.1, r.2, feq_nf]
  · by_cases p3 : (am.fdiv 4).fmod 2 = 1
    · by_cases p2 : (am.fdiv 2).fmod 2 = 1 <;> by_cases p1 : am.fmod 2 = 1
      · have r := rounding_rule v1 v2 r3 (gOk3 g1 g2 g3) (prounding_rule n3)
        simp [m_lrounding_refused, hW1, hW2, hW3, d2, d4, d16, e1, e2, e3, p1, p2, p3, p4, fp12, szOk_small, szr, szl, lx, r.1, r.2, feq_nr]
      · have r := rounding_rule num v2 r3 (gOk3 gx g2 g3) (prounding_rule n3)
        simp [m_lrounding_refused, hW1, hW2, hW3, d2, d4, d16, e1, e2, e3, p1, p2, p3, p4, fp12, szOk_small, szr, szl, lx, r.1, r.2, feq_nr]
      · have r := rounding_rule v1 k r3 (gOk3 g1 gk g3) (prounding_rule n3)
        simp [m_lrounding_refused, hW1, hW2, hW3, d2, d4, d16, e1, e2, e3, p1, p2, p3, p4, fp12, szOk_small, szr, szl, lx, r.1, r.2, feq_nr]
      · have r := rounding_rule num k r3 (gOk3 gx gk g3) (prounding_rule n3)
        simp [m_lrounding_refused, hW1, hW2, hW3, d2, d4, d16, e1, e2, e3, p1, p2, p3, p4, fp12, szOk_small, szr, szl, lx, r.1, r.2, feq_nr]
    · by_cases p2 : (am.fdiv 2).fmod 2 = 1 <;> by_cases p1 : am.fmod 2 = 1
      · have r := rounding_num v1 v2 rule (.inr rfl) (gOk3 g1 g2 gr) (prounding_long hr n2)
        simp [m_lrounding_refused, hW1, hW2, hW3, d2, d4, d16, e1, e2, e3, p1, p2, p3, p4, fp12, szOk_small, szr, szl, lx, r.1, r.2, feq_tl]
      · have r := rounding_num num v2 rule (.inr rfl) (gOk3 gx g2 gr) (prounding_long hr n2)
        simp [m_lrounding_refused, hW1, hW2, hW3, d2, d4, d16, e1, e2, e3, p1, p2, p3, p4, fp12, szOk_small, szr, szl, lx, r.1, r.2, feq_tl]
      · have r := rounding_num v1 k rule (.inl rfl) (gOk3 g1 gk gr) (prounding_nofit hr (by omega) n1)
        simp [m_lrounding_refused, hW1, hW2, hW3, d2, d4, d16, e1, e2, e3, p1, p2, p3, p4, fp12, szOk_small, szr, szl, lx, r.1, r.2, feq_nf]
      · have r := rounding_told num k rule (gOk3 gx gk gr) (show 2 ≤ 7 by decide) (rndP_pOk rule (num) k (by omega)) (prounding_full hk hr (num) (by omega))
        simp [m_lrounding_refused, hW1, hW2, hW3, d2, d4, d16, e1, e2, e3, p1, p2, p3, p4, fp12, szOk_small, szr, szl, lx, r.1, r.2, feq_nf]
theorem log_small2 {i : Nat} (h : i < 2 ^ 100) : decide ((i : Int).natAbs.log2 < 1900) = true := by
  rw [decide_eq_true_eq]
  show i.log2 < 1900
  by_cases z : i = 0
  · rw [z]; decide
  · have := (Nat.log2_lt z).mpr h
    omega
theorem val_lt {f : Nat → Nat} (hf : ∀ i, f i < 16) : ∀ k, val f k < 16 ^ k
  | 0 => by simp [val]
  | k + 1 => by
    have ih := val_lt hf k
    have := hf k
    rw [val, Nat.pow_succ]
    have : f k * 16 ^ k ≤ 15 * 16 ^ k := Nat.mul_le_mul_right _ (by omega)
    omega
theorem pOk_paper (a b k : Nat) (hk : 1 ≤ k ∧ k ≤ 12) : pOk 3 (paper a b k) = true := by
  have s16 : (16 : Nat) ^ k ≤ 16 ^ 12 := Nat.pow_le_pow_right (by decide) hk.2
  have e48 : (16 : Nat) ^ 12 = 281474976710656 := by decide
  have big : ∀ x : Nat, x < 1000000000000000 → decide ((x : Int).natAbs.log2 < 1900) = true := fun x hx => log_small2 (Nat.lt_trans hx (by decide))
  have v1 := val_lt (fun i => Nat.lt_trans (sdg_lt a i) (by decide)) k
  have v2 := val_lt (fun i => Nat.lt_trans (sdg_lt b i) (by decide)) k
  have v3 := val_lt (f := more a b) (fun i => by unfold more; split <;> decide) k
  have v4 := val_lt (f := fun i => tt a b i % 10) (fun i => Nat.lt_trans (Nat.mod_lt _ (by decide)) (by decide)) k
  have c0 := cy_le a b k
  have line : ∀ i, pOk 1 (sline a b i) = true := fun i => by
    have h1 := sdg_lt a i
    have h2 := sdg_lt b i
    have h3 := cy_le a b i
    have h4 := cy_le a b (i + 1)
    have h5 : tt a b i < 30 := by unfold tt; omega
    have h6 : tt a b i % 10 < 10 := Nat.mod_lt _ (by decide)
    unfold sline pOk
    simp only [List.all_cons, List.all_nil, Bool.and_true, Bool.and_eq_true, decide_eq_true_eq, List.length_cons, List.length_nil]
    refine ⟨⟨?_, ?_, ?_, ?_, rfl, ?_, ?_⟩, by decide⟩
    · exact big _ (by omega)
    · exact big _ (by omega)
    · exact big _ (by omega)
    · exact big _ (by omega)
    · exact big _ (by omega)
    · exact big _ (by omega)
  have lines : pOk 2 (.tup (slines a b k)) = true := by
    simp only [pOk, Bool.and_eq_true, decide_eq_true_eq, List.all_eq_true]
    refine ⟨fun x hx => ?_, by rw [slines_len]; omega⟩
    obtain ⟨i, _, rfl⟩ := List.mem_map.mp hx
    exact line i
  unfold paper
  show (List.all _ (pOk 2) && _) = true
  simp only [List.all_cons, List.all_nil, Bool.and_true, Bool.and_eq_true, decide_eq_true_eq, List.length_cons, List.length_nil, lines, and_true]
  refine ⟨⟨?_, ?_, ?_, ?_⟩, by decide⟩
  · exact big _ (by omega)
  · exact big _ (by omega)
  · exact big _ (by omega)
  · exact big _ (by omega)
theorem log_small3 {i : Int} (h0 : 0 ≤ i) (h : i < 10 ^ 20) : decide (i.natAbs.log2 < 1900) = true := by
  rw [decide_eq_true_eq]
  obtain ⟨n, rfl⟩ : ∃ n : Nat, i = n := ⟨i.toNat, by omega⟩
  show n.log2 < 1900
  by_cases z : n = 0
  · rw [z]; decide
  · have h1 : n < 2 ^ 100 := by
      have e1 : (10 : Int) ^ 20 = 100000000000000000000 := by decide
      have e2 : (2 : Nat) ^ 100 = 1267650600228229401496703205376 := by decide
      omega
    have := (Nat.log2_lt z).mpr h1
    omega
theorem tstep_le {o : Int} (ho : 0 < o) (s : TS) (t : Int) (ht : 0 ≤ t) (h : 0 ≤ s.1) (h2 : 0 ≤ s.2.1) : (0 ≤ (tstep o s t).1 ∧ (tstep o s t).1 ≤ s.1) ∧ 0 ≤ (tstep o s t).2.1 ∧ (tstep o s t).2.1 ≤ s.2.1 + t := by
  have hm : 0 ≤ t * o := Int.mul_nonneg ht (by omega)
  unfold tstep
  by_cases c : t * o ≤ s.1
  · simp only [c, if_true]; omega
  · simp only [c, if_false]; omega
theorem tfour_le {o a : Int} (ho : 0 < o) (ha : 0 ≤ a) : (0 ≤ (tfour o a).1 ∧ (tfour o a).1 ≤ a) ∧ 0 ≤ (tfour o a).2.1 ∧ (tfour o a).2.1 ≤ 15 := by
  have h1 := tstep_le ho (a, 0, []) 8 (by decide) ha (Int.le_refl 0)
  have h2 := tstep_le ho _ 4 (by decide) h1.1.1 h1.2.1
  have h3 := tstep_le ho _ 2 (by decide) h2.1.1 h2.2.1
  have h4 := tstep_le ho _ 1 (by decide) h3.1.1 h3.2.1
  have e : tfour o a = tstep o (tstep o (tstep o (tstep o (a, 0, []) 8) 4) 2) 1 := rfl
  rw [e]
  simp only at h1
  omega
theorem pOk_line {o a : Int} (ho : 0 < o ∧ o < 10 ^ 12) (ha : 0 ≤ a ∧ a < 10 ^ 15) : pOk 3 (tline o a) = true := by
  have e12 : (10 : Int) ^ 12 = 1000000000000 := by decide
  have e15 : (10 : Int) ^ 15 = 1000000000000000 := by decide
  have e20 : (10 : Int) ^ 20 = 100000000000000000000 := by decide
  have l := @tfour_le o a ho.1 ha.1
  have try_ : ∀ (t : Int) (b : Bool), 0 ≤ t ∧ t ≤ 8 → pOk 1 (.tup [.int t, .int (t * o), .bl b]) = true := fun t b ht => by
    have h1 : 0 ≤ t * o := Int.mul_nonneg ht.1 (by omega)
    have h2 : t * o ≤ 8 * o := Int.mul_le_mul_of_nonneg_right ht.2 (by omega)
    have q1 := log_small3 (i := t) ht.1 (by omega)
    have q2 := log_small3 (i := t * o) h1 (by omega)
    simp [pOk] at q1 q2 ⊢
    exact ⟨q1, q2⟩
  have four : pOk 2 (.tup (tfour o a).2.2) = true := by
    have : ∃ b1 b2 b3 b4 : Bool, (tfour o a).2.2 = [.tup [.int 8, .int (8 * o), .bl b1], .tup [.int 4, .int (4 * o), .bl b2], .tup [.int 2, .int (2 * o), .bl b3], .tup [.int 1, .int (1 * o), .bl b4]] := ⟨_, _, _, _, rfl⟩
    obtain ⟨b1, b2, b3, b4, e⟩ := this
    rw [e]
    simp only [pOk, List.all_cons, List.all_nil, Bool.and_true, Bool.and_eq_true, decide_eq_true_eq, List.length_cons, List.length_nil]
    have t1 := try_ 8 b1 (by decide)
    have t2 := try_ 4 b2 (by decide)
    have t3 := try_ 2 b3 (by decide)
    have t4 := try_ 1 b4 (by decide)
    simp only [pOk, List.all_cons, List.all_nil, Bool.and_true, Bool.and_eq_true, decide_eq_true_eq, List.length_cons, List.length_nil] at t1 t2 t3 t4
    exact ⟨⟨t1, t2, t3, t4⟩, by decide⟩
  have q1 := log_small3 (i := a) ha.1 (by omega)
  have q2 := log_small3 (i := (tfour o a).1) l.1.1 (by omega)
  have q3 := log_small3 (i := (tfour o a).2.1) l.2.1 (by omega)
  unfold tline
  generalize (tfour o a).2.2 = T at *
  generalize (tfour o a).2.1 = T1 at *
  generalize (tfour o a).1 = T2 at *
  show (List.all [MV.int a, .tup T, .int T1, .int T2] (pOk 2) && decide ([MV.int a, .tup T, .int T1, .int T2].length ≤ 20)) = true
  simp only [List.all_cons, List.all_nil, four, Bool.and_true, Bool.true_and]
  rw [show pOk 2 (.int a) = true from q1, show pOk 2 (.int T1) = true from q3, show pOk 2 (.int T2) = true from q2]
  rfl
theorem trs_pOk {o : Int} (ho : 0 < o ∧ o < 10 ^ 12) : ∀ (ds : List Nat) (s : Int × List MV) (k : Nat), (∀ d ∈ ds, d < 10) → 0 ≤ s.1 → s.1 < 10 ^ k → k + ds.length ≤ 14 → s.2.all (pOk 3) = true → (ds.foldl (tstate o) s).2.all (pOk 3) = true
  | [], s, k, _, _, _, _, h => h
  | d :: ds, s, k, hd, h0, h1, hk, h => by
    rw [List.length_cons] at hk
    have d0 := hd d (List.mem_cons_self ..)
    have pw : (10 : Int) ^ (k + 1) = 10 * 10 ^ k := by rw [Int.pow_succ, Int.mul_comm]
    have mono : (10 : Int) ^ k ≤ 10 ^ 13 := by
      have := Nat.pow_le_pow_right (show 0 < 10 by decide) (show k ≤ 13 by omega)
      have e : ((10 ^ k : Nat) : Int) = 10 ^ k := by simp
      have e2 : ((10 ^ 13 : Nat) : Int) = 10 ^ 13 := by simp
      omega
    have e13 : (10 : Int) ^ 13 = 10000000000000 := by decide
    have e15 : (10 : Int) ^ 15 = 1000000000000000 := by decide
    have pl := @pOk_line o (10 * s.1 + d) ho ⟨by omega, by omega⟩
    have l := @tfour_le o (10 * s.1 + d) ho.1 (by omega)
    rw [List.foldl_cons]
    refine trs_pOk ho ds _ (k + 1) (fun x hx => hd x (List.mem_cons_of_mem _ hx)) l.1.1 ?_ (by omega) ?_
    · show (tfour o (10 * s.1 + d)).1 < _
      omega
    · show (s.2 ++ [tline o (10 * s.1 + d)]).all (pOk 3) = true
      rw [List.all_append, h]
      simp [pl]
theorem pOk_trs {n : Nat} {o : Int} (hn : n < 10 ^ 12) (ho : 0 < o ∧ o < 10 ^ 12) : pOk 4 (.tup (trs n o)) = true := by
  have hL : (TL.numL n).length ≤ 12 := TL.numL_len (by decide) hn
  have h1 := trs_pOk ho (digsB (TL.numL n).length n) (0, []) 0 (fun d hd => digsB_lt hd) (by decide) (by decide) (by rw [digsB_len]; omega) rfl
  have h2 := tstate_len o (digsB (TL.numL n).length n) (0, [])
  rw [digsB_len] at h2
  simp at h2
  show ((trs n o).all (pOk 3) && decide ((trs n o).length ≤ 20)) = true
  rw [show (trs n o).all (pOk 3) = true from h1, Bool.true_and, decide_eq_true_eq]
  unfold trs
  omega
theorem law_true : ∀ ns : List Int, ns.length ≤ 63 → ∃ bs, f_law76 [.scr ns] = .ok (.bl true, bs) := by
  intro ns hns
  refine ⟨[], mFn_ok ?_⟩
  obtain ⟨c0, hc0⟩ := lcell_ok ns 0
  obtain ⟨c1, hc1⟩ := lcell_ok ns 1
  obtain ⟨M, hM⟩ : ∃ M : Int, (10 : Int) ^ 39 = M := ⟨_, rfl⟩
  have hMb : 1000 ≤ M ∧ M < 2 ^ 133 := by rw [← hM]; decide
  have fp39 : fPow (.int 10) (.int 39) = some (.int M) := by rw [← hM]; rfl
  have dM : divOk M = true := divOk_wide (by omega) (by omega)
  have fp12 : fPow (.int 10) (.int 12) = some (.int 1000000000000) := rfl
  obtain ⟨ds, hd, hds⟩ := ldraws_ok c0 453 [8, 64, 6] (by decide) (by decide)
  simp only [draws_cons, draws_nil] at hd
  obtain ⟨am, _, rfl, t0, ways, _, rfl, t1, kind, _, rfl, t2, rfl⟩ := hd
  obtain ⟨es, he, hes⟩ := ldraws_ok c1 455 [12, 1000000000000, 1000000000000, 12, M] (by simp) (by
    intro w hw
    simp only [List.mem_cons, List.not_mem_nil, or_false] at hw
    rcases hw with rfl | rfl | rfl | rfl | rfl
    · decide
    · decide
    · decide
    · decide
    · exact ⟨by omega, dM⟩)
  simp only [draws_cons, draws_nil] at he
  obtain ⟨m0, _, rfl, u0, one, _, rfl, u1, ot, _, rfl, u2, by0, _, rfl, u3, far, _, rfl, u4, rfl⟩ := he
  rw [← hM] at u4
  obtain ⟨k, hk, hk1⟩ : ∃ k : Nat, 1 + m0 = k ∧ (1 ≤ k ∧ k ≤ 12) := ⟨(1 + m0).toNat, by omega, by omega, by omega⟩
  obtain ⟨j, hj, hj1⟩ : ∃ j : Nat, 1 + by0 = j ∧ (1 ≤ j ∧ j ≤ 12) := ⟨(1 + by0).toNat, by omega, by omega, by omega⟩
  obtain ⟨rule, hr, hra⟩ := rule_at t2
  have rul : atI [MV.str "cut", .str "up", .str "half", .str "even", .str "floor", .str "ceil"] kind = some (.str rule) := hra
  have A := @lsixes_refused_ok am ways one ot far k hk1 t1 u4 fun a b ha hb => ⟨_, pOk_paper a b k hk1, psixes_eq k a b hk1 ha hb⟩
  have B := @ltries_refused_ok am ways one ot far u1 t1 u4 fun n o hn ho => ⟨_, pOk_trs hn ho, ptries_eq n o hn ho⟩
  have C := @lrounding_refused_ok am ways one far j rule hr u1 hj1 t1 u4
  clear u4
  simp at hc0 hc1 hds hes
  simp [m_law76, hc0, hc1, hds, hes, szOk_small, fp12, fp39, hk, hj, rul, A, B, C]
def top (i : Nat) : Stmt := PySem.Challenge.pw_tensloft_k78_papers_refused.main.body.getD i (.Pass ⟨0, 0, 0, 0⟩)
abbrev s_ini_NoFit : Stmt := inCls (top 3) 0
theorem sc_ini_NoFit : FnScope ["self", "number"] ["self", "number"] (defScope s_ini_NoFit) := ⟨rfl, rfl, rfl, by decide +kernel, rfl, by decide +kernel, by decide +kernel⟩
theorem ini_NoFit {P : Program} {w : World} {K : PySem.W.Frag} {mg : Str → Option Value} {base : Heap} {a : Addr} {fd : FuncData} (F : Fun K "__init__" "NoFit.__init__" s_ini_NoFit a fd) (B : Bas K mg "LoftError") : FnOk P w K mg base (L2N.CX P w) 2 a fd ["self", "number"] (spI1 K "number") :=
  init1 F sc_ini_NoFit B rfl (fun _ _ => rfl) (by decide +kernel) (by decide +kernel) (fun _ => ⟨_, rfl⟩) (by decide) (by decide) (by decide)
abbrev s_ini_NoRule : Stmt := inCls (top 9) 0
theorem sc_ini_NoRule : FnScope ["self", "rule"] ["self", "rule"] (defScope s_ini_NoRule) := ⟨rfl, rfl, rfl, by decide +kernel, rfl, by decide +kernel, by decide +kernel⟩
theorem ini_NoRule {P : Program} {w : World} {K : PySem.W.Frag} {mg : Str → Option Value} {base : Heap} {a : Addr} {fd : FuncData} (F : Fun K "__init__" "NoRule.__init__" s_ini_NoRule a fd) (B : Bas K mg "LoftError") : FnOk P w K mg base (L2N.CX P w) 2 a fd ["self", "rule"] (spI1 K "rule") :=
  init1 F sc_ini_NoRule B rfl (fun _ _ => rfl) (by decide +kernel) (by decide +kernel) (fun _ => ⟨_, rfl⟩) (by decide) (by decide) (by decide)
abbrev s_ini_TooLong : Stmt := inCls (top 8) 0
theorem sc_ini_TooLong : FnScope ["self", "number"] ["self", "number"] (defScope s_ini_TooLong) := ⟨rfl, rfl, rfl, by decide +kernel, rfl, by decide +kernel, by decide +kernel⟩
theorem ini_TooLong {P : Program} {w : World} {K : PySem.W.Frag} {mg : Str → Option Value} {base : Heap} {a : Addr} {fd : FuncData} (F : Fun K "__init__" "TooLong.__init__" s_ini_TooLong a fd) (B : Bas K mg "LoftError") : FnOk P w K mg base (L2N.CX P w) 2 a fd ["self", "number"] (spI1 K "number") :=
  init1 F sc_ini_TooLong B rfl (fun _ _ => rfl) (by decide +kernel) (by decide +kernel) (fun _ => ⟨_, rfl⟩) (by decide) (by decide) (by decide)
abbrev s_lmixed : Stmt := top 41
theorem sc_lmixed : FnScope ["_law_cell_here", "_law_k", "_law_salt", "_law_primes", "_law_one", "_law_two"] ["_law_cell_here", "_law_k", "_law_salt"] (defScope s_lmixed) := ⟨rfl, rfl, rfl, by decide +kernel, rfl, by decide +kernel, by decide +kernel⟩
theorem v_lmixed_0 : (defScope s_lmixed).names.lookup ("_law_cell_here" : Str) = some NameKind.local := by decide +kernel
theorem v_lmixed_1 : (defScope s_lmixed).names.lookup ("_law_k" : Str) = some NameKind.local := by decide +kernel
theorem v_lmixed_2 : (defScope s_lmixed).names.lookup ("_law_salt" : Str) = some NameKind.local := by decide +kernel
theorem v_lmixed_3 : (defScope s_lmixed).names.lookup ("_law_primes" : Str) = some NameKind.local := by decide +kernel
theorem v_lmixed_4 : (defScope s_lmixed).names.lookup ("_law_one" : Str) = some NameKind.local := by decide +kernel
theorem v_lmixed_5 : (defScope s_lmixed).names.lookup ("_law_two" : Str) = some NameKind.local := by decide +kernel
theorem ok_lmixed {P : Program} {w : World} {K : PySem.W.Frag} {mg : Str → Option Value} {base : Heap} {f : Addr} {fd : FuncData} (F : Fun K "_law_mixed" "_law_mixed" s_lmixed f fd) (B : Bn mg)     :
    FnOk P w K mg base (L2N.CX P w) 2 f fd ["_law_cell_here", "_law_k", "_law_salt"] (spF K mg 3 [] f_lmixed) := by
  refine fn_ok F sc_lmixed (by decide) (by decide) fun cdv A outer s H E hr => ?_
  have nd := sc_lmixed.nd
  have tk : L2N.Takes (cxOf (L2N.CX P w) P w K mg base ["_law_cell_here", "_law_k", "_law_salt", "_law_primes", "_law_one", "_law_two"] "_law_mixed" (defScope s_lmixed) f cdv A outer s H E) (fun cls d _ H => E cls d H) := L2N.takes_of rfl rfl rfl rfl
  have pn : PassesOwn (model P w) (cxOf (L2N.CX P w) P w K mg base ["_law_cell_here", "_law_k", "_law_salt", "_law_primes", "_law_one", "_law_two"] "_law_mixed" (defScope s_lmixed) f cdv A outer s H E).A (cxOf (L2N.CX P w) P w K mg base ["_law_cell_here", "_law_k", "_law_salt", "_law_primes", "_law_one", "_law_two"] "_law_mixed" (defScope s_lmixed) f cdv A outer s H E).env (cxOf (L2N.CX P w) P w K mg base ["_law_cell_here", "_law_k", "_law_salt", "_law_primes", "_law_one", "_law_two"] "_law_mixed" (defScope s_lmixed) f cdv A outer s H E).xe := passes_of rfl
  unfold m_lmixed
  exact mss_cons (ms_set (i := 3) nd rfl (.inl v_lmixed_3) (me_lst (ma_cons (me_int) (ma_cons (me_int) (ma_cons (me_int) (ma_cons (me_int) (ma_cons (me_int) (ma_cons (me_int) (ma_cons (me_int) (ma_cons (me_int) (ma_nil))))))))))) (mss_cons (ms_set (i := 4) nd rfl (.inl v_lmixed_4) (me_mod (me_add (me_add (me_add (me_var (i := 0) rfl (.inl v_lmixed_0)) (me_mul (me_int) (me_var (i := 2) rfl (.inl v_lmixed_2)))) (me_mul (me_int) (me_var (i := 1) rfl (.inl v_lmixed_1)))) (me_int)) (me_int))) (mss_cons (ms_set (i := 4) nd rfl (.inl v_lmixed_4) (me_mod (me_pow (me_var (i := 4) rfl (.inl v_lmixed_4)) (me_int)) (me_ix (me_var (i := 3) rfl (.inl v_lmixed_3)) (me_mod (me_var (i := 1) rfl (.inl v_lmixed_1)) (me_int))))) (mss_cons (ms_set (i := 5) nd rfl (.inl v_lmixed_5) (me_mod (me_add (me_add (me_var (i := 4) rfl (.inl v_lmixed_4)) (me_mul (me_int) (me_var (i := 2) rfl (.inl v_lmixed_2)))) (me_var (i := 1) rfl (.inl v_lmixed_1))) (me_int))) (mss_one (ms_ret (me_add (me_mul (me_mod (me_pow (me_var (i := 5) rfl (.inl v_lmixed_5)) (me_int)) (me_int)) (me_int)) (me_var (i := 4) rfl (.inl v_lmixed_4))))))))

abbrev s_ldraws : Stmt := top 42
theorem sc_ldraws : FnScope ["_law_cell_here", "_law_salt", "_law_widths", "_law_found", "_law_left", "_law_k"] ["_law_cell_here", "_law_salt", "_law_widths"] (defScope s_ldraws) := ⟨rfl, rfl, rfl, by decide +kernel, rfl, by decide +kernel, by decide +kernel⟩
theorem v_ldraws_0 : (defScope s_ldraws).names.lookup ("_law_cell_here" : Str) = some NameKind.local := by decide +kernel
theorem v_ldraws_1 : (defScope s_ldraws).names.lookup ("_law_salt" : Str) = some NameKind.local := by decide +kernel
theorem v_ldraws_2 : (defScope s_ldraws).names.lookup ("_law_widths" : Str) = some NameKind.local := by decide +kernel
theorem v_ldraws_3 : (defScope s_ldraws).names.lookup ("_law_found" : Str) = some NameKind.local := by decide +kernel
theorem v_ldraws_4 : (defScope s_ldraws).names.lookup ("_law_left" : Str) = some NameKind.local := by decide +kernel
theorem v_ldraws_5 : (defScope s_ldraws).names.lookup ("_law_k" : Str) = some NameKind.local := by decide +kernel
theorem g_ldraws_abs (L a : Addr) (cd : Value) : (PyProof.Rows.envOfC "_law_draws" (defScope s_ldraws) L a cd).kindOf ("abs" : Str) = some NameKind.globalImplicit := rfl
theorem g_ldraws_len (L a : Addr) (cd : Value) : (PyProof.Rows.envOfC "_law_draws" (defScope s_ldraws) L a cd).kindOf ("len" : Str) = some NameKind.globalImplicit := rfl
theorem g_ldraws_range (L a : Addr) (cd : Value) : (PyProof.Rows.envOfC "_law_draws" (defScope s_ldraws) L a cd).kindOf ("range" : Str) = some NameKind.globalImplicit := rfl
theorem g_ldraws_law_mixed (L a : Addr) (cd : Value) : (PyProof.Rows.envOfC "_law_draws" (defScope s_ldraws) L a cd).kindOf ("_law_mixed" : Str) = some NameKind.globalImplicit := rfl
theorem ok_ldraws {P : Program} {w : World} {K : PySem.W.Frag} {mg : Str → Option Value} {base : Heap} {f : Addr} {fd : FuncData} (F : Fun K "_law_draws" "_law_draws" s_ldraws f fd) (B : Bn mg) (h_lmixed : Fd P w K mg base "_law_mixed" 2 ["_law_cell_here", "_law_k", "_law_salt"] [] f_lmixed)    :
    FnOk P w K mg base (L2N.CX P w) 4 f fd ["_law_cell_here", "_law_salt", "_law_widths"] (spF K mg 3 [] f_ldraws) := by
  refine fn_ok F sc_ldraws (by decide) (by decide) fun cdv A outer s H E hr => ?_
  have nd := sc_ldraws.nd
  have tk : L2N.Takes (cxOf (L2N.CX P w) P w K mg base ["_law_cell_here", "_law_salt", "_law_widths", "_law_found", "_law_left", "_law_k"] "_law_draws" (defScope s_ldraws) f cdv A outer s H E) (fun cls d _ H => E cls d H) := L2N.takes_of rfl rfl rfl rfl
  have pn : PassesOwn (model P w) (cxOf (L2N.CX P w) P w K mg base ["_law_cell_here", "_law_salt", "_law_widths", "_law_found", "_law_left", "_law_k"] "_law_draws" (defScope s_ldraws) f cdv A outer s H E).A (cxOf (L2N.CX P w) P w K mg base ["_law_cell_here", "_law_salt", "_law_widths", "_law_found", "_law_left", "_law_k"] "_law_draws" (defScope s_ldraws) f cdv A outer s H E).env (cxOf (L2N.CX P w) P w K mg base ["_law_cell_here", "_law_salt", "_law_widths", "_law_found", "_law_left", "_law_k"] "_law_draws" (defScope s_ldraws) f cdv A outer s H E).xe := passes_of rfl
  unfold m_ldraws
  exact mss_cons (ms_setO (i := 3) nd rfl (.inl v_ldraws_3) (mo_lst (ma_nil))) (mss_cons (ms_set (i := 4) nd rfl (.inl v_ldraws_4) (me_int)) (mss_cons (ms_if (mt_cmp op_ge os_ge (mb_abs B.abs (ma_cons (me_var (i := 0) rfl (.inl v_ldraws_0)) (ma_nil)) (hg := (g_ldraws_abs _ _ _))) (me_pow (me_int) (me_int)) (nomark _)) (mss_one (ms_set (i := 4) nd rfl (.inl v_ldraws_4) (mb_abs B.abs (ma_cons (me_var (i := 0) rfl (.inl v_ldraws_0)) (ma_nil)) (hg := (g_ldraws_abs _ _ _))))) (mss_nil)) (mss_cons (ms_for pn rfl (mi_r1 B.range (ma_cons (mb_len B.len (ma_cons (me_var (i := 2) rfl (.inl v_ldraws_2)) (ma_nil)) (hg := (g_ldraws_len _ _ _))) (ma_nil)) (hg := (g_ldraws_range _ _ _))) (mg_name (i := 5) nd rfl (.inl v_ldraws_5)) (mss_one (ms_if (mt_cmp op_gt os_gt (me_var (i := 4) rfl (.inl v_ldraws_4)) (me_int) (nomark _)) (mss_cons (ms_expr (me_lm1 ls_append PySem.F.slot_list_append PySem.F.type_list_append mt_append (i := 3) rfl (.inl v_ldraws_3) (ma_cons (me_mod (me_var (i := 4) rfl (.inl v_ldraws_4)) (me_ix (me_var (i := 2) rfl (.inl v_ldraws_2)) (me_var (i := 5) rfl (.inl v_ldraws_5)))) (ma_nil)))) (mss_one (ms_set (i := 4) nd rfl (.inl v_ldraws_4) (me_div (me_var (i := 4) rfl (.inl v_ldraws_4)) (me_ix (me_var (i := 2) rfl (.inl v_ldraws_2)) (me_var (i := 5) rfl (.inl v_ldraws_5))))))) (mss_one (ms_expr (me_lm1 ls_append PySem.F.slot_list_append PySem.F.type_list_append mt_append (i := 3) rfl (.inl v_ldraws_3) (ma_cons (me_mod (me_fz (mf_call h_lmixed hr (by decide) tk (ma_cons (me_var (i := 0) rfl (.inl v_ldraws_0)) (ma_cons (me_var (i := 5) rfl (.inl v_ldraws_5)) (ma_cons (me_var (i := 1) rfl (.inl v_ldraws_1)) (ma_nil)))) (lng_cons (lng_cons (lng_cons lng_nil))) (hg := (g_ldraws_law_mixed _ _ _)))) (me_ix (me_var (i := 2) rfl (.inl v_ldraws_2)) (me_var (i := 5) rfl (.inl v_ldraws_5)))) (ma_nil)))))))) (mss_one (ms_retO (mo_var (i := 3) rfl (.inl v_ldraws_3)))))))

abbrev s_pfigures_of : Stmt := top 19
theorem sc_pfigures_of : FnScope ["number", "many", "found", "k"] ["number", "many"] (defScope s_pfigures_of) := ⟨rfl, rfl, rfl, by decide +kernel, rfl, by decide +kernel, by decide +kernel⟩
theorem v_pfigures_of_0 : (defScope s_pfigures_of).names.lookup ("number" : Str) = some NameKind.local := by decide +kernel
theorem v_pfigures_of_1 : (defScope s_pfigures_of).names.lookup ("many" : Str) = some NameKind.local := by decide +kernel
theorem v_pfigures_of_2 : (defScope s_pfigures_of).names.lookup ("found" : Str) = some NameKind.local := by decide +kernel
theorem v_pfigures_of_3 : (defScope s_pfigures_of).names.lookup ("k" : Str) = some NameKind.local := by decide +kernel
theorem g_pfigures_of_range (L a : Addr) (cd : Value) : (PyProof.Rows.envOfC "figures_of" (defScope s_pfigures_of) L a cd).kindOf ("range" : Str) = some NameKind.globalImplicit := rfl
theorem ok_pfigures_of {P : Program} {w : World} {K : PySem.W.Frag} {mg : Str → Option Value} {base : Heap} {f : Addr} {fd : FuncData} (F : Fun K "figures_of" "figures_of" s_pfigures_of f fd) (B : Bn mg)     :
    FnOk P w K mg base (L2N.CX P w) 2 f fd ["number", "many"] (spF K mg 2 [] f_pfigures_of) := by
  refine fn_ok F sc_pfigures_of (by decide) (by decide) fun cdv A outer s H E hr => ?_
  have nd := sc_pfigures_of.nd
  have tk : L2N.Takes (cxOf (L2N.CX P w) P w K mg base ["number", "many", "found", "k"] "figures_of" (defScope s_pfigures_of) f cdv A outer s H E) (fun cls d _ H => E cls d H) := L2N.takes_of rfl rfl rfl rfl
  have pn : PassesOwn (model P w) (cxOf (L2N.CX P w) P w K mg base ["number", "many", "found", "k"] "figures_of" (defScope s_pfigures_of) f cdv A outer s H E).A (cxOf (L2N.CX P w) P w K mg base ["number", "many", "found", "k"] "figures_of" (defScope s_pfigures_of) f cdv A outer s H E).env (cxOf (L2N.CX P w) P w K mg base ["number", "many", "found", "k"] "figures_of" (defScope s_pfigures_of) f cdv A outer s H E).xe := passes_of rfl
  unfold m_pfigures_of
  exact mss_cons (ms_setO (i := 2) nd rfl (.inl v_pfigures_of_2) (mo_lst (ma_nil))) (mss_cons (ms_for pn rfl (mi_r1 B.range (ma_cons (me_var (i := 1) rfl (.inl v_pfigures_of_1)) (ma_nil)) (hg := (g_pfigures_of_range _ _ _))) (mg_name (i := 3) nd rfl (.inl v_pfigures_of_3)) (mss_cons (ms_expr (me_lm1 ls_append PySem.F.slot_list_append PySem.F.type_list_append mt_append (i := 2) rfl (.inl v_pfigures_of_2) (ma_cons (me_mod (me_var (i := 0) rfl (.inl v_pfigures_of_0)) (me_int)) (ma_nil)))) (mss_one (ms_set (i := 0) nd rfl (.inl v_pfigures_of_0) (me_div (me_var (i := 0) rfl (.inl v_pfigures_of_0)) (me_int)))))) (mss_one (ms_ret (me_revA (me_var (i := 2) rfl (.inl v_pfigures_of_2))))))

abbrev s_pwhy_of : Stmt := top 28
theorem sc_pwhy_of : FnScope ["total"] ["total"] (defScope s_pwhy_of) := ⟨rfl, rfl, rfl, by decide +kernel, rfl, by decide +kernel, by decide +kernel⟩
theorem v_pwhy_of_0 : (defScope s_pwhy_of).names.lookup ("total" : Str) = some NameKind.local := by decide +kernel
theorem ok_pwhy_of {P : Program} {w : World} {K : PySem.W.Frag} {mg : Str → Option Value} {base : Heap} {f : Addr} {fd : FuncData} (F : Fun K "why_of" "why_of" s_pwhy_of f fd) (B : Bn mg)     :
    FnOk P w K mg base (L2N.CX P w) 2 f fd ["total"] (spF K mg 1 [] f_pwhy_of) := by
  refine fn_ok F sc_pwhy_of (by decide) (by decide) fun cdv A outer s H E hr => ?_
  have nd := sc_pwhy_of.nd
  have tk : L2N.Takes (cxOf (L2N.CX P w) P w K mg base ["total"] "why_of" (defScope s_pwhy_of) f cdv A outer s H E) (fun cls d _ H => E cls d H) := L2N.takes_of rfl rfl rfl rfl
  have pn : PassesOwn (model P w) (cxOf (L2N.CX P w) P w K mg base ["total"] "why_of" (defScope s_pwhy_of) f cdv A outer s H E).A (cxOf (L2N.CX P w) P w K mg base ["total"] "why_of" (defScope s_pwhy_of) f cdv A outer s H E).env (cxOf (L2N.CX P w) P w K mg base ["total"] "why_of" (defScope s_pwhy_of) f cdv A outer s H E).xe := passes_of rfl
  unfold m_pwhy_of
  exact mss_cons (ms_if (mt_cmp op_lt os_lt (me_var (i := 0) rfl (.inl v_pwhy_of_0)) (me_int) (nomark _)) (mss_one (ms_ret (me_str))) (mss_nil)) (mss_cons (ms_if (mt_cmp op_lt os_lt (me_var (i := 0) rfl (.inl v_pwhy_of_0)) (me_int) (nomark _)) (mss_one (ms_ret (me_str))) (mss_nil)) (mss_one (ms_ret (me_str))))

abbrev s_psum_lines : Stmt := top 29
theorem sc_psum_lines : FnScope ["first", "second", "lines", "before", "a", "b", "total", "behind"] ["first", "second"] (defScope s_psum_lines) := ⟨rfl, rfl, rfl, by decide +kernel, rfl, by decide +kernel, by decide +kernel⟩
theorem v_psum_lines_0 : (defScope s_psum_lines).names.lookup ("first" : Str) = some NameKind.local := by decide +kernel
theorem v_psum_lines_1 : (defScope s_psum_lines).names.lookup ("second" : Str) = some NameKind.local := by decide +kernel
theorem v_psum_lines_2 : (defScope s_psum_lines).names.lookup ("lines" : Str) = some NameKind.local := by decide +kernel
theorem v_psum_lines_3 : (defScope s_psum_lines).names.lookup ("before" : Str) = some NameKind.local := by decide +kernel
theorem v_psum_lines_4 : (defScope s_psum_lines).names.lookup ("a" : Str) = some NameKind.local := by decide +kernel
theorem v_psum_lines_5 : (defScope s_psum_lines).names.lookup ("b" : Str) = some NameKind.local := by decide +kernel
theorem v_psum_lines_6 : (defScope s_psum_lines).names.lookup ("total" : Str) = some NameKind.local := by decide +kernel
theorem v_psum_lines_7 : (defScope s_psum_lines).names.lookup ("behind" : Str) = some NameKind.local := by decide +kernel
theorem g_psum_lines_zip (L a : Addr) (cd : Value) : (PyProof.Rows.envOfC "sum_lines" (defScope s_psum_lines) L a cd).kindOf ("zip" : Str) = some NameKind.globalImplicit := rfl
theorem g_psum_lines_why_of (L a : Addr) (cd : Value) : (PyProof.Rows.envOfC "sum_lines" (defScope s_psum_lines) L a cd).kindOf ("why_of" : Str) = some NameKind.globalImplicit := rfl
theorem g_psum_lines_tuple (L a : Addr) (cd : Value) : (PyProof.Rows.envOfC "sum_lines" (defScope s_psum_lines) L a cd).kindOf ("tuple" : Str) = some NameKind.globalImplicit := rfl
theorem ok_psum_lines {P : Program} {w : World} {K : PySem.W.Frag} {mg : Str → Option Value} {base : Heap} {f : Addr} {fd : FuncData} (F : Fun K "sum_lines" "sum_lines" s_psum_lines f fd) (B : Bn mg) (h_pwhy_of : Fd P w K mg base "why_of" 2 ["total"] [] f_pwhy_of)    :
    FnOk P w K mg base (L2N.CX P w) 4 f fd ["first", "second"] (spF K mg 2 [] f_psum_lines) := by
  refine fn_ok F sc_psum_lines (by decide) (by decide) fun cdv A outer s H E hr => ?_
  have nd := sc_psum_lines.nd
  have tk : L2N.Takes (cxOf (L2N.CX P w) P w K mg base ["first", "second", "lines", "before", "a", "b", "total", "behind"] "sum_lines" (defScope s_psum_lines) f cdv A outer s H E) (fun cls d _ H => E cls d H) := L2N.takes_of rfl rfl rfl rfl
  have pn : PassesOwn (model P w) (cxOf (L2N.CX P w) P w K mg base ["first", "second", "lines", "before", "a", "b", "total", "behind"] "sum_lines" (defScope s_psum_lines) f cdv A outer s H E).A (cxOf (L2N.CX P w) P w K mg base ["first", "second", "lines", "before", "a", "b", "total", "behind"] "sum_lines" (defScope s_psum_lines) f cdv A outer s H E).env (cxOf (L2N.CX P w) P w K mg base ["first", "second", "lines", "before", "a", "b", "total", "behind"] "sum_lines" (defScope s_psum_lines) f cdv A outer s H E).xe := passes_of rfl
  unfold m_psum_lines
  exact mss_cons (ms_setO (i := 2) nd rfl (.inl v_psum_lines_2) (mo_lst (ma_nil))) (mss_cons (ms_set (i := 3) nd rfl (.inl v_psum_lines_3) (me_int)) (mss_cons (ms_for pn rfl (mi_zip B.zip (ma_cons (me_revA (me_var (i := 0) rfl (.inl v_psum_lines_0))) (ma_cons (me_revA (me_var (i := 1) rfl (.inl v_psum_lines_1))) (ma_nil))) (hg := (g_psum_lines_zip _ _ _))) (mg_tup rfl (mgs_cons (mg_name (i := 4) nd rfl (.inl v_psum_lines_4)) (mgs_cons (mg_name (i := 5) nd rfl (.inl v_psum_lines_5)) (mgs_nil)))) (mss_cons (ms_set (i := 6) nd rfl (.inl v_psum_lines_6) (me_add (me_add (me_var (i := 4) rfl (.inl v_psum_lines_4)) (me_var (i := 5) rfl (.inl v_psum_lines_5))) (me_var (i := 3) rfl (.inl v_psum_lines_3)))) (mss_cons (ms_set (i := 7) nd rfl (.inl v_psum_lines_7) (me_div (me_var (i := 6) rfl (.inl v_psum_lines_6)) (me_int))) (mss_cons (ms_expr (me_lm1 ls_append PySem.F.slot_list_append PySem.F.type_list_append mt_append (i := 2) rfl (.inl v_psum_lines_2) (ma_cons (me_tup (ma_cons (me_var (i := 4) rfl (.inl v_psum_lines_4)) (ma_cons (me_var (i := 5) rfl (.inl v_psum_lines_5)) (ma_cons (me_var (i := 3) rfl (.inl v_psum_lines_3)) (ma_cons (me_var (i := 6) rfl (.inl v_psum_lines_6)) (ma_cons (me_fz (mf_call h_pwhy_of hr (by decide) tk (ma_cons (me_var (i := 6) rfl (.inl v_psum_lines_6)) (ma_nil)) (lng_cons lng_nil) (hg := (g_psum_lines_why_of _ _ _)))) (ma_cons (me_mod (me_var (i := 6) rfl (.inl v_psum_lines_6)) (me_int)) (ma_cons (me_var (i := 7) rfl (.inl v_psum_lines_7)) (ma_nil))))))))) (ma_nil)))) (mss_one (ms_set (i := 3) nd rfl (.inl v_psum_lines_3) (me_var (i := 7) rfl (.inl v_psum_lines_7)))))))) (mss_one (ms_ret (mb_tuple B.tuple (ma_cons (me_var (i := 2) rfl (.inl v_psum_lines_2)) (ma_nil)) (hg := (g_psum_lines_tuple _ _ _)))))))

abbrev s_pnumber_by : Stmt := top 20
theorem sc_pnumber_by : FnScope ["base", "digits", "found", "digit"] ["base", "digits"] (defScope s_pnumber_by) := ⟨rfl, rfl, rfl, by decide +kernel, rfl, by decide +kernel, by decide +kernel⟩
theorem v_pnumber_by_0 : (defScope s_pnumber_by).names.lookup ("base" : Str) = some NameKind.local := by decide +kernel
theorem v_pnumber_by_1 : (defScope s_pnumber_by).names.lookup ("digits" : Str) = some NameKind.local := by decide +kernel
theorem v_pnumber_by_2 : (defScope s_pnumber_by).names.lookup ("found" : Str) = some NameKind.local := by decide +kernel
theorem v_pnumber_by_3 : (defScope s_pnumber_by).names.lookup ("digit" : Str) = some NameKind.local := by decide +kernel
theorem ok_pnumber_by {P : Program} {w : World} {K : PySem.W.Frag} {mg : Str → Option Value} {base : Heap} {f : Addr} {fd : FuncData} (F : Fun K "number_by" "number_by" s_pnumber_by f fd) (B : Bn mg)     :
    FnOk P w K mg base (L2N.CX P w) 2 f fd ["base", "digits"] (spF K mg 2 [] f_pnumber_by) := by
  refine fn_ok F sc_pnumber_by (by decide) (by decide) fun cdv A outer s H E hr => ?_
  have nd := sc_pnumber_by.nd
  have tk : L2N.Takes (cxOf (L2N.CX P w) P w K mg base ["base", "digits", "found", "digit"] "number_by" (defScope s_pnumber_by) f cdv A outer s H E) (fun cls d _ H => E cls d H) := L2N.takes_of rfl rfl rfl rfl
  have pn : PassesOwn (model P w) (cxOf (L2N.CX P w) P w K mg base ["base", "digits", "found", "digit"] "number_by" (defScope s_pnumber_by) f cdv A outer s H E).A (cxOf (L2N.CX P w) P w K mg base ["base", "digits", "found", "digit"] "number_by" (defScope s_pnumber_by) f cdv A outer s H E).env (cxOf (L2N.CX P w) P w K mg base ["base", "digits", "found", "digit"] "number_by" (defScope s_pnumber_by) f cdv A outer s H E).xe := passes_of rfl
  unfold m_pnumber_by
  exact mss_cons (ms_set (i := 2) nd rfl (.inl v_pnumber_by_2) (me_int)) (mss_cons (ms_for pn rfl (mi_val (me_var (i := 1) rfl (.inl v_pnumber_by_1))) (mg_name (i := 3) nd rfl (.inl v_pnumber_by_3)) (mss_one (ms_set (i := 2) nd rfl (.inl v_pnumber_by_2) (me_add (me_mul (me_var (i := 2) rfl (.inl v_pnumber_by_2)) (me_var (i := 0) rfl (.inl v_pnumber_by_0))) (me_var (i := 3) rfl (.inl v_pnumber_by_3)))))) (mss_one (ms_ret (me_var (i := 2) rfl (.inl v_pnumber_by_2)))))

abbrev s_ppower : Stmt := top 18
theorem sc_ppower : FnScope ["base", "many", "found", "k"] ["base", "many"] (defScope s_ppower) := ⟨rfl, rfl, rfl, by decide +kernel, rfl, by decide +kernel, by decide +kernel⟩
theorem v_ppower_0 : (defScope s_ppower).names.lookup ("base" : Str) = some NameKind.local := by decide +kernel
theorem v_ppower_1 : (defScope s_ppower).names.lookup ("many" : Str) = some NameKind.local := by decide +kernel
theorem v_ppower_2 : (defScope s_ppower).names.lookup ("found" : Str) = some NameKind.local := by decide +kernel
theorem v_ppower_3 : (defScope s_ppower).names.lookup ("k" : Str) = some NameKind.local := by decide +kernel
theorem g_ppower_range (L a : Addr) (cd : Value) : (PyProof.Rows.envOfC "power" (defScope s_ppower) L a cd).kindOf ("range" : Str) = some NameKind.globalImplicit := rfl
theorem ok_ppower {P : Program} {w : World} {K : PySem.W.Frag} {mg : Str → Option Value} {base : Heap} {f : Addr} {fd : FuncData} (F : Fun K "power" "power" s_ppower f fd) (B : Bn mg)     :
    FnOk P w K mg base (L2N.CX P w) 2 f fd ["base", "many"] (spF K mg 2 [] f_ppower) := by
  refine fn_ok F sc_ppower (by decide) (by decide) fun cdv A outer s H E hr => ?_
  have nd := sc_ppower.nd
  have tk : L2N.Takes (cxOf (L2N.CX P w) P w K mg base ["base", "many", "found", "k"] "power" (defScope s_ppower) f cdv A outer s H E) (fun cls d _ H => E cls d H) := L2N.takes_of rfl rfl rfl rfl
  have pn : PassesOwn (model P w) (cxOf (L2N.CX P w) P w K mg base ["base", "many", "found", "k"] "power" (defScope s_ppower) f cdv A outer s H E).A (cxOf (L2N.CX P w) P w K mg base ["base", "many", "found", "k"] "power" (defScope s_ppower) f cdv A outer s H E).env (cxOf (L2N.CX P w) P w K mg base ["base", "many", "found", "k"] "power" (defScope s_ppower) f cdv A outer s H E).xe := passes_of rfl
  unfold m_ppower
  exact mss_cons (ms_set (i := 2) nd rfl (.inl v_ppower_2) (me_int)) (mss_cons (ms_for pn rfl (mi_r1 B.range (ma_cons (me_var (i := 1) rfl (.inl v_ppower_1)) (ma_nil)) (hg := (g_ppower_range _ _ _))) (mg_name (i := 3) nd rfl (.inl v_ppower_3)) (mss_one (ms_set (i := 2) nd rfl (.inl v_ppower_2) (me_mul (me_var (i := 2) rfl (.inl v_ppower_2)) (me_var (i := 0) rfl (.inl v_ppower_0)))))) (mss_one (ms_ret (me_var (i := 2) rfl (.inl v_ppower_2)))))

abbrev s_psixes : Stmt := top 30
theorem sc_psixes : FnScope ["figures", "one", "other", "number", "first", "second", "lines", "added", "right", "line"] ["figures", "one", "other"] (defScope s_psixes) := ⟨rfl, rfl, rfl, by decide +kernel, rfl, by decide +kernel, by decide +kernel⟩
theorem v_psixes_0 : (defScope s_psixes).names.lookup ("figures" : Str) = some NameKind.local := by decide +kernel
theorem v_psixes_1 : (defScope s_psixes).names.lookup ("one" : Str) = some NameKind.local := by decide +kernel
theorem v_psixes_2 : (defScope s_psixes).names.lookup ("other" : Str) = some NameKind.local := by decide +kernel
theorem v_psixes_3 : (defScope s_psixes).names.lookup ("number" : Str) = some NameKind.local := by decide +kernel
theorem v_psixes_4 : (defScope s_psixes).names.lookup ("first" : Str) = some NameKind.local := by decide +kernel
theorem v_psixes_5 : (defScope s_psixes).names.lookup ("second" : Str) = some NameKind.local := by decide +kernel
theorem v_psixes_6 : (defScope s_psixes).names.lookup ("lines" : Str) = some NameKind.local := by decide +kernel
theorem v_psixes_7 : (defScope s_psixes).names.lookup ("added" : Str) = some NameKind.local := by decide +kernel
theorem v_psixes_8 : (defScope s_psixes).names.lookup ("right" : Str) = some NameKind.local := by decide +kernel
theorem g_psixes_MOST_FIGURES (L a : Addr) (cd : Value) : (PyProof.Rows.envOfC "sixes" (defScope s_psixes) L a cd).kindOf ("MOST_FIGURES" : Str) = some NameKind.globalImplicit := rfl
theorem g_psixes_TooLong (L a : Addr) (cd : Value) : (PyProof.Rows.envOfC "sixes" (defScope s_psixes) L a cd).kindOf ("TooLong" : Str) = some NameKind.globalImplicit := rfl
theorem g_psixes_power (L a : Addr) (cd : Value) : (PyProof.Rows.envOfC "sixes" (defScope s_psixes) L a cd).kindOf ("power" : Str) = some NameKind.globalImplicit := rfl
theorem g_psixes_NoFit (L a : Addr) (cd : Value) : (PyProof.Rows.envOfC "sixes" (defScope s_psixes) L a cd).kindOf ("NoFit" : Str) = some NameKind.globalImplicit := rfl
theorem g_psixes_figures_of (L a : Addr) (cd : Value) : (PyProof.Rows.envOfC "sixes" (defScope s_psixes) L a cd).kindOf ("figures_of" : Str) = some NameKind.globalImplicit := rfl
theorem g_psixes_sum_lines (L a : Addr) (cd : Value) : (PyProof.Rows.envOfC "sixes" (defScope s_psixes) L a cd).kindOf ("sum_lines" : Str) = some NameKind.globalImplicit := rfl
theorem g_psixes_number_by (L a : Addr) (cd : Value) : (PyProof.Rows.envOfC "sixes" (defScope s_psixes) L a cd).kindOf ("number_by" : Str) = some NameKind.globalImplicit := rfl
theorem ok_psixes {P : Program} {w : World} {K : PySem.W.Frag} {mg : Str → Option Value} {base : Heap} {f : Addr} {fd : FuncData} (F : Fun K "sixes" "sixes" s_psixes f fd) (B : Bn mg) (h_ppower : Fd P w K mg base "power" 2 ["base", "many"] [] f_ppower) (h_pfigures_of : Fd P w K mg base "figures_of" 2 ["number", "many"] [] f_pfigures_of) (h_psum_lines : Fd P w K mg base "sum_lines" 4 ["first", "second"] [] f_psum_lines) (h_pnumber_by : Fd P w K mg base "number_by" 2 ["base", "digits"] [] f_pnumber_by)  (xcl1_TooLong_number : Cl1 P w K mg base "TooLong" "number") (xcl1_NoFit_number : Cl1 P w K mg base "NoFit" "number") (c_MOST_FIGURES : Cst K mg "MOST_FIGURES" (.int 12)) :
    FnOk P w K mg base (L2N.CX P w) 6 f fd ["figures", "one", "other"] (spF K mg 3 [] f_psixes) := by
  refine fn_ok F sc_psixes (by decide) (by decide) fun cdv A outer s H E hr => ?_
  have nd := sc_psixes.nd
  have tk : L2N.Takes (cxOf (L2N.CX P w) P w K mg base ["figures", "one", "other", "number", "first", "second", "lines", "added", "right", "line"] "sixes" (defScope s_psixes) f cdv A outer s H E) (fun cls d _ H => E cls d H) := L2N.takes_of rfl rfl rfl rfl
  have pn : PassesOwn (model P w) (cxOf (L2N.CX P w) P w K mg base ["figures", "one", "other", "number", "first", "second", "lines", "added", "right", "line"] "sixes" (defScope s_psixes) f cdv A outer s H E).A (cxOf (L2N.CX P w) P w K mg base ["figures", "one", "other", "number", "first", "second", "lines", "added", "right", "line"] "sixes" (defScope s_psixes) f cdv A outer s H E).env (cxOf (L2N.CX P w) P w K mg base ["figures", "one", "other", "number", "first", "second", "lines", "added", "right", "line"] "sixes" (defScope s_psixes) f cdv A outer s H E).xe := passes_of rfl
  unfold m_psixes
  exact mss_cons (ms_if (mt_not (mt_chain op_le os_le op_le os_le (me_int) (me_var (i := 0) rfl (.inl v_psixes_0)) (mf_con c_MOST_FIGURES (hg := (g_psixes_MOST_FIGURES _ _ _))))) (mss_one (ms_raise1 xcl1_TooLong_number rfl hr (by decide) tk (g_psixes_TooLong _ _ _) (me_var (i := 0) rfl (.inl v_psixes_0)))) (mss_nil)) (mss_cons (ms_for pn rfl (mi_val (me_tup (ma_cons (me_var (i := 1) rfl (.inl v_psixes_1)) (ma_cons (me_var (i := 2) rfl (.inl v_psixes_2)) (ma_nil))))) (mg_name (i := 3) nd rfl (.inl v_psixes_3)) (mss_one (ms_if (mt_not (mt_chain op_le os_le op_lt os_lt (me_int) (me_var (i := 3) rfl (.inl v_psixes_3)) (me_fz (mf_call h_ppower hr (by decide) tk (ma_cons (me_int) (ma_cons (me_var (i := 0) rfl (.inl v_psixes_0)) (ma_nil))) (lng_cons (lng_cons lng_nil)) (hg := (g_psixes_power _ _ _)))))) (mss_one (ms_raise1 xcl1_NoFit_number rfl hr (by decide) tk (g_psixes_NoFit _ _ _) (me_var (i := 3) rfl (.inl v_psixes_3)))) (mss_nil)))) (mss_cons (ms_set (i := 4) nd rfl (.inl v_psixes_4) (me_fz (mf_call h_pfigures_of hr (by decide) tk (ma_cons (me_var (i := 1) rfl (.inl v_psixes_1)) (ma_cons (me_var (i := 0) rfl (.inl v_psixes_0)) (ma_nil))) (lng_cons (lng_cons lng_nil)) (hg := (g_psixes_figures_of _ _ _))))) (mss_cons (ms_set (i := 5) nd rfl (.inl v_psixes_5) (me_fz (mf_call h_pfigures_of hr (by decide) tk (ma_cons (me_var (i := 2) rfl (.inl v_psixes_2)) (ma_cons (me_var (i := 0) rfl (.inl v_psixes_0)) (ma_nil))) (lng_cons (lng_cons lng_nil)) (hg := (g_psixes_figures_of _ _ _))))) (mss_cons (ms_set (i := 6) nd rfl (.inl v_psixes_6) (me_fz (mf_call h_psum_lines hr (by decide) tk (ma_cons (me_var (i := 4) rfl (.inl v_psixes_4)) (ma_cons (me_var (i := 5) rfl (.inl v_psixes_5)) (ma_nil))) (lng_cons (lng_cons lng_nil)) (hg := (g_psixes_sum_lines _ _ _))))) (mss_cons (ms_set (i := 7) nd rfl (.inl v_psixes_7) (me_fz (mf_call h_pnumber_by hr (by decide) tk (ma_cons (me_int) (ma_cons (me_fz (mo_lc (own := [("line", 9)]) (g := .nm 9) rfl nd (mi_val (me_revA (me_var (i := 6) rfl (.inl v_psixes_6)))) (blkOk_at (N' := ["figures", "one", "other", "number", "first", "second", "lines", "added", "right", "line"]) (sc' := defScope s_psixes) rfl rfl (by decide +kernel)) (fun _ _ _ _ _ => pg_name (i := 9) nd rfl (Or.inl rfl)) (fun _ _ _ _ _ => mts_nil) (fun _ _ _ _ _ => me_mul (me_int) (mb_int B.int (ma_cons (me_cmp (op_neM hr.units) os_ne (me_ix (me_var (i := 9) rfl (.inl rfl)) (me_int)) (me_str) (nomark _)) (ma_nil)) (hg := rfl))) (hbs := hbs_of rfl))) (ma_nil))) (lng_cons (lng_cons lng_nil)) (hg := (g_psixes_number_by _ _ _))))) (mss_cons (ms_set (i := 8) nd rfl (.inl v_psixes_8) (me_fz (mf_call h_pnumber_by hr (by decide) tk (ma_cons (me_int) (ma_cons (me_fz (mo_lc (own := [("line", 9)]) (g := .nm 9) rfl nd (mi_val (me_revA (me_var (i := 6) rfl (.inl v_psixes_6)))) (blkOk_at (N' := ["figures", "one", "other", "number", "first", "second", "lines", "added", "right", "line"]) (sc' := defScope s_psixes) rfl rfl (by decide +kernel)) (fun _ _ _ _ _ => pg_name (i := 9) nd rfl (Or.inl rfl)) (fun _ _ _ _ _ => mts_nil) (fun _ _ _ _ _ => me_ix (me_var (i := 9) rfl (.inl rfl)) (me_int)) (hbs := hbs_of rfl))) (ma_nil))) (lng_cons (lng_cons lng_nil)) (hg := (g_psixes_number_by _ _ _))))) (mss_one (ms_ret (me_tup (ma_cons (me_add (me_fz (mf_call h_pnumber_by hr (by decide) tk (ma_cons (me_int) (ma_cons (me_var (i := 4) rfl (.inl v_psixes_4)) (ma_nil))) (lng_cons (lng_cons lng_nil)) (hg := (g_psixes_number_by _ _ _)))) (me_fz (mf_call h_pnumber_by hr (by decide) tk (ma_cons (me_int) (ma_cons (me_var (i := 5) rfl (.inl v_psixes_5)) (ma_nil))) (lng_cons (lng_cons lng_nil)) (hg := (g_psixes_number_by _ _ _))))) (ma_cons (me_var (i := 7) rfl (.inl v_psixes_7)) (ma_cons (me_var (i := 8) rfl (.inl v_psixes_8)) (ma_cons (me_ix (me_ix (me_var (i := 6) rfl (.inl v_psixes_6)) (me_neg (me_int))) (me_int)) (ma_cons (me_var (i := 6) rfl (.inl v_psixes_6)) (ma_nil)))))))))))))))

abbrev s_pis_just : Stmt := top 35
theorem sc_pis_just : FnScope ["thing", "due", "part", "wanted"] ["thing", "due"] (defScope s_pis_just) := ⟨rfl, rfl, rfl, by decide +kernel, rfl, by decide +kernel, by decide +kernel⟩
theorem v_pis_just_0 : (defScope s_pis_just).names.lookup ("thing" : Str) = some NameKind.local := by decide +kernel
theorem v_pis_just_1 : (defScope s_pis_just).names.lookup ("due" : Str) = some NameKind.local := by decide +kernel
theorem g_pis_just_tuple (L a : Addr) (cd : Value) : (PyProof.Rows.envOfC "is_just" (defScope s_pis_just) L a cd).kindOf ("tuple" : Str) = some NameKind.globalImplicit := rfl
theorem g_pis_just_isinstance (L a : Addr) (cd : Value) : (PyProof.Rows.envOfC "is_just" (defScope s_pis_just) L a cd).kindOf ("isinstance" : Str) = some NameKind.globalImplicit := rfl
theorem g_pis_just_len (L a : Addr) (cd : Value) : (PyProof.Rows.envOfC "is_just" (defScope s_pis_just) L a cd).kindOf ("len" : Str) = some NameKind.globalImplicit := rfl
theorem g_pis_just_zip (L a : Addr) (cd : Value) : (PyProof.Rows.envOfC "is_just" (defScope s_pis_just) L a cd).kindOf ("zip" : Str) = some NameKind.globalImplicit := rfl
theorem g_pis_just_all (L a : Addr) (cd : Value) : (PyProof.Rows.envOfC "is_just" (defScope s_pis_just) L a cd).kindOf ("all" : Str) = some NameKind.globalImplicit := rfl
theorem g_pis_just_str (L a : Addr) (cd : Value) : (PyProof.Rows.envOfC "is_just" (defScope s_pis_just) L a cd).kindOf ("str" : Str) = some NameKind.globalImplicit := rfl
theorem g_pis_just_int (L a : Addr) (cd : Value) : (PyProof.Rows.envOfC "is_just" (defScope s_pis_just) L a cd).kindOf ("int" : Str) = some NameKind.globalImplicit := rfl
theorem g_pis_just_bool (L a : Addr) (cd : Value) : (PyProof.Rows.envOfC "is_just" (defScope s_pis_just) L a cd).kindOf ("bool" : Str) = some NameKind.globalImplicit := rfl
theorem ok_pis_just {P : Program} {w : World} {K : PySem.W.Frag} {mg : Str → Option Value} {base : Heap} {f : Addr} {fd : FuncData} (F : Fun K "is_just" "is_just" s_pis_just f fd) (hs : mg "is_just" = some (.ref f)) (hk : PySem.W.keepIn K (.ref f) = true) (hb : Binds K fd ["thing", "due"] []) (B : Bn mg)     :
    ∀ n : Nat, FnOk P w K mg base (L2N.CX P w) (2 + n) f fd ["thing", "due"] (spF K mg 2 [] (mRec 4 [] m_pis_just n)) := by
  intro n
  induction n with
  | zero => exact fn_off
  | succ n ih =>
  have h_self : Fd P w K mg base "is_just" (2 + n) ["thing", "due"] [] (mRec 4 [] m_pis_just n) := ⟨_, _, ih, hs, hk, hb⟩
  refine fn_ok F sc_pis_just (by decide) (by decide) fun cdv A outer s H E hr => ?_
  have nd := sc_pis_just.nd
  have tk : L2N.Takes (cxOf (L2N.CX P w) P w K mg base ["thing", "due", "part", "wanted"] "is_just" (defScope s_pis_just) f cdv A outer s H E) (fun cls d _ H => E cls d H) := L2N.takes_of rfl rfl rfl rfl
  have pn : PassesOwn (model P w) (cxOf (L2N.CX P w) P w K mg base ["thing", "due", "part", "wanted"] "is_just" (defScope s_pis_just) f cdv A outer s H E).A (cxOf (L2N.CX P w) P w K mg base ["thing", "due", "part", "wanted"] "is_just" (defScope s_pis_just) f cdv A outer s H E).env (cxOf (L2N.CX P w) P w K mg base ["thing", "due", "part", "wanted"] "is_just" (defScope s_pis_just) f cdv A outer s H E).xe := passes_of rfl
  show PSs _ _ (rdS _ (m_pis_just (mRec 4 [] m_pis_just n)))
  unfold m_pis_just
  exact mss_cons (ms_if (mt_val (mb_isi B.isinstance (ma_cons (me_var (i := 1) rfl (.inl v_pis_just_1)) (ma_cons (me_bltn B.tuple (by decide +kernel) (w := .ty "tuple") rfl (hg := (g_pis_just_tuple _ _ _))) ma_nil)) (hg := (g_pis_just_isinstance _ _ _)))) (mss_cons (ms_if (PW.pt (mw_or (mt_not (mt_val (mb_isi B.isinstance (ma_cons (me_var (i := 0) rfl (.inl v_pis_just_0)) (ma_cons (me_bltn B.tuple (by decide +kernel) (w := .ty "tuple") rfl (hg := (g_pis_just_tuple _ _ _))) ma_nil)) (hg := (g_pis_just_isinstance _ _ _))))) (mw_one_or (mt_cmp (op_neM hr.units) os_ne (mb_len B.len (ma_cons (me_var (i := 0) rfl (.inl v_pis_just_0)) (ma_nil)) (hg := (g_pis_just_len _ _ _))) (mb_len B.len (ma_cons (me_var (i := 1) rfl (.inl v_pis_just_1)) (ma_nil)) (hg := (g_pis_just_len _ _ _))) (nomark _))))) (mss_one (ms_ret (me_bl))) (mss_nil)) (mss_one (ms_ret (mb_all rfl B.all (ma_cons (me_fz (mo_lc (own := [("part", 2), ("wanted", 3)]) (g := .tp [2, 3]) rfl nd (mi_zip B.zip (ma_cons (me_var (i := 0) rfl (.inl v_pis_just_0)) (ma_cons (me_var (i := 1) rfl (.inl v_pis_just_1)) (ma_nil))) (hg := (g_pis_just_zip _ _ _))) (blkOk_at (N' := ["thing", "due", "part", "wanted"]) (sc' := defScope s_pis_just) rfl rfl (by decide +kernel)) (fun _ _ _ _ _ => pg_tup rfl (pgs_cons (pg_name (i := 2) nd rfl (Or.inl rfl)) (pgs_cons (pg_name (i := 3) nd rfl (Or.inl rfl)) (pgs_nil)))) (fun _ _ _ _ _ => mts_nil) (fun _ _ _ _ _ => me_fz (mf_call0 h_self hr (by first | omega | exact Nat.le_refl _) (ma_cons (me_var (i := 2) rfl (.inl rfl)) (ma_cons (me_var (i := 3) rfl (.inl rfl)) (ma_nil))) (lng_cons (lng_cons lng_nil)) (hg := rfl))) (hbs := hbs_of rfl))) (ma_nil)) (hg := (g_pis_just_all _ _ _)))))) (mss_nil)) (mss_cons (ms_if (mt_val (mb_isi B.isinstance (ma_cons (me_var (i := 1) rfl (.inl v_pis_just_1)) (ma_cons (me_bltn B.str (by decide +kernel) (w := .ty "str") rfl (hg := (g_pis_just_str _ _ _))) ma_nil)) (hg := (g_pis_just_isinstance _ _ _)))) (mss_one (ms_ret (me_and (mb_isi B.isinstance (ma_cons (me_var (i := 0) rfl (.inl v_pis_just_0)) (ma_cons (me_bltn B.str (by decide +kernel) (w := .ty "str") rfl (hg := (g_pis_just_str _ _ _))) ma_nil)) (hg := (g_pis_just_isinstance _ _ _))) (me_one (me_cmp (op_eqM hr.units) os_eq (me_var (i := 0) rfl (.inl v_pis_just_0)) (me_var (i := 1) rfl (.inl v_pis_just_1)) (nomark _)))))) (mss_nil)) (mss_cons (ms_if (PW.pt (mw_or (mt_not (mt_val (mb_isi B.isinstance (ma_cons (me_var (i := 0) rfl (.inl v_pis_just_0)) (ma_cons (me_bltn B.int (by decide +kernel) (w := .ty "int") rfl (hg := (g_pis_just_int _ _ _))) ma_nil)) (hg := (g_pis_just_isinstance _ _ _))))) (mw_one_or (mt_cmp (op_neM hr.units) os_ne (mb_isi B.isinstance (ma_cons (me_var (i := 0) rfl (.inl v_pis_just_0)) (ma_cons (me_bltn B.bool (by decide +kernel) (w := .ty "bool") rfl (hg := (g_pis_just_bool _ _ _))) ma_nil)) (hg := (g_pis_just_isinstance _ _ _))) (mb_isi B.isinstance (ma_cons (me_var (i := 1) rfl (.inl v_pis_just_1)) (ma_cons (me_bltn B.bool (by decide +kernel) (w := .ty "bool") rfl (hg := (g_pis_just_bool _ _ _))) ma_nil)) (hg := (g_pis_just_isinstance _ _ _))) (nomark _))))) (mss_one (ms_ret (me_bl))) (mss_nil)) (mss_one (ms_ret (me_cmp (op_eqM hr.units) os_eq (me_var (i := 0) rfl (.inl v_pis_just_0)) (me_var (i := 1) rfl (.inl v_pis_just_1)) (nomark _))))))

abbrev s_psixes_hold : Stmt := top 36
theorem sc_psixes_hold : FnScope ["figures", "one", "other", "paper"] ["figures", "one", "other", "paper"] (defScope s_psixes_hold) := ⟨rfl, rfl, rfl, by decide +kernel, rfl, by decide +kernel, by decide +kernel⟩
theorem v_psixes_hold_0 : (defScope s_psixes_hold).names.lookup ("figures" : Str) = some NameKind.local := by decide +kernel
theorem v_psixes_hold_1 : (defScope s_psixes_hold).names.lookup ("one" : Str) = some NameKind.local := by decide +kernel
theorem v_psixes_hold_2 : (defScope s_psixes_hold).names.lookup ("other" : Str) = some NameKind.local := by decide +kernel
theorem v_psixes_hold_3 : (defScope s_psixes_hold).names.lookup ("paper" : Str) = some NameKind.local := by decide +kernel
theorem g_psixes_hold_sixes (L a : Addr) (cd : Value) : (PyProof.Rows.envOfC "sixes_hold" (defScope s_psixes_hold) L a cd).kindOf ("sixes" : Str) = some NameKind.globalImplicit := rfl
theorem g_psixes_hold_is_just (L a : Addr) (cd : Value) : (PyProof.Rows.envOfC "sixes_hold" (defScope s_psixes_hold) L a cd).kindOf ("is_just" : Str) = some NameKind.globalImplicit := rfl
theorem ok_psixes_hold {P : Program} {w : World} {K : PySem.W.Frag} {mg : Str → Option Value} {base : Heap} {f : Addr} {fd : FuncData} (F : Fun K "sixes_hold" "sixes_hold" s_psixes_hold f fd) (B : Bn mg) (h_pis_just : Fd P w K mg base "is_just" 10 ["thing", "due"] [] f_pis_just) (h_psixes : Fd P w K mg base "sixes" 6 ["figures", "one", "other"] [] f_psixes)    :
    FnOk P w K mg base (L2N.CX P w) 12 f fd ["figures", "one", "other", "paper"] (spF K mg 4 [] f_psixes_hold) := by
  refine fn_ok F sc_psixes_hold (by decide) (by decide) fun cdv A outer s H E hr => ?_
  have nd := sc_psixes_hold.nd
  have tk : L2N.Takes (cxOf (L2N.CX P w) P w K mg base ["figures", "one", "other", "paper"] "sixes_hold" (defScope s_psixes_hold) f cdv A outer s H E) (fun cls d _ H => E cls d H) := L2N.takes_of rfl rfl rfl rfl
  have pn : PassesOwn (model P w) (cxOf (L2N.CX P w) P w K mg base ["figures", "one", "other", "paper"] "sixes_hold" (defScope s_psixes_hold) f cdv A outer s H E).A (cxOf (L2N.CX P w) P w K mg base ["figures", "one", "other", "paper"] "sixes_hold" (defScope s_psixes_hold) f cdv A outer s H E).env (cxOf (L2N.CX P w) P w K mg base ["figures", "one", "other", "paper"] "sixes_hold" (defScope s_psixes_hold) f cdv A outer s H E).xe := passes_of rfl
  unfold m_psixes_hold
  exact mss_one (ms_ret (me_fz (mf_call h_pis_just hr (by decide) tk (ma_cons (me_var (i := 3) rfl (.inl v_psixes_hold_3)) (ma_cons (me_fz (mf_call h_psixes hr (by decide) tk (ma_cons (me_var (i := 0) rfl (.inl v_psixes_hold_0)) (ma_cons (me_var (i := 1) rfl (.inl v_psixes_hold_1)) (ma_cons (me_var (i := 2) rfl (.inl v_psixes_hold_2)) (ma_nil)))) (lng_cons (lng_cons (lng_cons lng_nil))) (hg := (g_psixes_hold_sixes _ _ _)))) (ma_nil))) (lng_cons (lng_cons lng_nil)) (hg := (g_psixes_hold_is_just _ _ _)))))

abbrev s_lsorts : Stmt := top 44
theorem sc_lsorts : FnScope ["_law_e", "_law_sorts_here", "_law_word", "_law_here"] ["_law_e"] (defScope s_lsorts) := ⟨rfl, rfl, rfl, by decide +kernel, rfl, by decide +kernel, by decide +kernel⟩
theorem v_lsorts_0 : (defScope s_lsorts).names.lookup ("_law_e" : Str) = some NameKind.local := by decide +kernel
theorem v_lsorts_1 : (defScope s_lsorts).names.lookup ("_law_sorts_here" : Str) = some NameKind.local := by decide +kernel
theorem g_lsorts_isinstance (L a : Addr) (cd : Value) : (PyProof.Rows.envOfC "_law_sorts" (defScope s_lsorts) L a cd).kindOf ("isinstance" : Str) = some NameKind.globalImplicit := rfl
theorem g_lsorts_Wrong (L a : Addr) (cd : Value) : (PyProof.Rows.envOfC "_law_sorts" (defScope s_lsorts) L a cd).kindOf ("Wrong" : Str) = some NameKind.globalImplicit := rfl
theorem g_lsorts_NoFit (L a : Addr) (cd : Value) : (PyProof.Rows.envOfC "_law_sorts" (defScope s_lsorts) L a cd).kindOf ("NoFit" : Str) = some NameKind.globalImplicit := rfl
theorem g_lsorts_NoShape (L a : Addr) (cd : Value) : (PyProof.Rows.envOfC "_law_sorts" (defScope s_lsorts) L a cd).kindOf ("NoShape" : Str) = some NameKind.globalImplicit := rfl
theorem g_lsorts_NoRow (L a : Addr) (cd : Value) : (PyProof.Rows.envOfC "_law_sorts" (defScope s_lsorts) L a cd).kindOf ("NoRow" : Str) = some NameKind.globalImplicit := rfl
theorem g_lsorts_NoTable (L a : Addr) (cd : Value) : (PyProof.Rows.envOfC "_law_sorts" (defScope s_lsorts) L a cd).kindOf ("NoTable" : Str) = some NameKind.globalImplicit := rfl
theorem g_lsorts_TooLong (L a : Addr) (cd : Value) : (PyProof.Rows.envOfC "_law_sorts" (defScope s_lsorts) L a cd).kindOf ("TooLong" : Str) = some NameKind.globalImplicit := rfl
theorem g_lsorts_BadLine (L a : Addr) (cd : Value) : (PyProof.Rows.envOfC "_law_sorts" (defScope s_lsorts) L a cd).kindOf ("BadLine" : Str) = some NameKind.globalImplicit := rfl
theorem g_lsorts_NoDeed (L a : Addr) (cd : Value) : (PyProof.Rows.envOfC "_law_sorts" (defScope s_lsorts) L a cd).kindOf ("NoDeed" : Str) = some NameKind.globalImplicit := rfl
theorem g_lsorts_NoRule (L a : Addr) (cd : Value) : (PyProof.Rows.envOfC "_law_sorts" (defScope s_lsorts) L a cd).kindOf ("NoRule" : Str) = some NameKind.globalImplicit := rfl
theorem g_lsorts_NoText (L a : Addr) (cd : Value) : (PyProof.Rows.envOfC "_law_sorts" (defScope s_lsorts) L a cd).kindOf ("NoText" : Str) = some NameKind.globalImplicit := rfl
theorem g_lsorts_NoName (L a : Addr) (cd : Value) : (PyProof.Rows.envOfC "_law_sorts" (defScope s_lsorts) L a cd).kindOf ("NoName" : Str) = some NameKind.globalImplicit := rfl
theorem g_lsorts_Unlike (L a : Addr) (cd : Value) : (PyProof.Rows.envOfC "_law_sorts" (defScope s_lsorts) L a cd).kindOf ("Unlike" : Str) = some NameKind.globalImplicit := rfl
theorem g_lsorts_Nought (L a : Addr) (cd : Value) : (PyProof.Rows.envOfC "_law_sorts" (defScope s_lsorts) L a cd).kindOf ("Nought" : Str) = some NameKind.globalImplicit := rfl
theorem g_lsorts_NothingDone (L a : Addr) (cd : Value) : (PyProof.Rows.envOfC "_law_sorts" (defScope s_lsorts) L a cd).kindOf ("NothingDone" : Str) = some NameKind.globalImplicit := rfl
theorem g_lsorts_NoLine (L a : Addr) (cd : Value) : (PyProof.Rows.envOfC "_law_sorts" (defScope s_lsorts) L a cd).kindOf ("NoLine" : Str) = some NameKind.globalImplicit := rfl
theorem g_lsorts_ValueError (L a : Addr) (cd : Value) : (PyProof.Rows.envOfC "_law_sorts" (defScope s_lsorts) L a cd).kindOf ("ValueError" : Str) = some NameKind.globalImplicit := rfl
theorem g_lsorts_LoftError (L a : Addr) (cd : Value) : (PyProof.Rows.envOfC "_law_sorts" (defScope s_lsorts) L a cd).kindOf ("LoftError" : Str) = some NameKind.globalImplicit := rfl
theorem ok_lsorts {P : Program} {w : World} {K : PySem.W.Frag} {mg : Str → Option Value} {base : Heap} {f : Addr} {fd : FuncData} (F : Fun K "_law_sorts" "_law_sorts" s_lsorts f fd) (B : Bn mg)   (xxcf_NoFit_ : XcF K mg [] "NoFit") (xxcf_NoRule_ : XcF K mg [] "NoRule") (xxcf_Nought_ : XcF K mg [] "Nought") (xxcf_TooLong_ : XcF K mg [] "TooLong") (xkit_Wrong_NoFit_False : KiT K mg "Wrong" "NoFit" false) (xkit_Wrong_NoRule_False : KiT K mg "Wrong" "NoRule" false) (xkit_Wrong_Nought_False : KiT K mg "Wrong" "Nought" false) (xkit_Wrong_TooLong_False : KiT K mg "Wrong" "TooLong" false) (xcls_Wrong : ∃ D, mg "Wrong" = some (.ref D)) (xkit_NoFit_NoFit_True : KiT K mg "NoFit" "NoFit" true) (xkit_NoFit_NoRule_False : KiT K mg "NoFit" "NoRule" false) (xkit_NoFit_Nought_False : KiT K mg "NoFit" "Nought" false) (xkit_NoFit_TooLong_False : KiT K mg "NoFit" "TooLong" false) (xcls_NoFit : ∃ D, mg "NoFit" = some (.ref D)) (xkit_NoShape_NoFit_False : KiT K mg "NoShape" "NoFit" false) (xkit_NoShape_NoRule_False : KiT K mg "NoShape" "NoRule" false) (xkit_NoShape_Nought_False : KiT K mg "NoShape" "Nought" false) (xkit_NoShape_TooLong_False : KiT K mg "NoShape" "TooLong" false) (xcls_NoShape : ∃ D, mg "NoShape" = some (.ref D)) (xkit_NoRow_NoFit_False : KiT K mg "NoRow" "NoFit" false) (xkit_NoRow_NoRule_False : KiT K mg "NoRow" "NoRule" false) (xkit_NoRow_Nought_False : KiT K mg "NoRow" "Nought" false) (xkit_NoRow_TooLong_False : KiT K mg "NoRow" "TooLong" false) (xcls_NoRow : ∃ D, mg "NoRow" = some (.ref D)) (xkit_NoTable_NoFit_False : KiT K mg "NoTable" "NoFit" false) (xkit_NoTable_NoRule_False : KiT K mg "NoTable" "NoRule" false) (xkit_NoTable_Nought_False : KiT K mg "NoTable" "Nought" false) (xkit_NoTable_TooLong_False : KiT K mg "NoTable" "TooLong" false) (xcls_NoTable : ∃ D, mg "NoTable" = some (.ref D)) (xkit_TooLong_NoFit_False : KiT K mg "TooLong" "NoFit" false) (xkit_TooLong_NoRule_False : KiT K mg "TooLong" "NoRule" false) (xkit_TooLong_Nought_False : KiT K mg "TooLong" "Nought" false) (xkit_TooLong_TooLong_True : KiT K mg "TooLong" "TooLong" true) (xcls_TooLong : ∃ D, mg "TooLong" = some (.ref D)) (xkit_BadLine_NoFit_False : KiT K mg "BadLine" "NoFit" false) (xkit_BadLine_NoRule_False : KiT K mg "BadLine" "NoRule" false) (xkit_BadLine_Nought_False : KiT K mg "BadLine" "Nought" false) (xkit_BadLine_TooLong_False : KiT K mg "BadLine" "TooLong" false) (xcls_BadLine : ∃ D, mg "BadLine" = some (.ref D)) (xkit_NoDeed_NoFit_False : KiT K mg "NoDeed" "NoFit" false) (xkit_NoDeed_NoRule_False : KiT K mg "NoDeed" "NoRule" false) (xkit_NoDeed_Nought_False : KiT K mg "NoDeed" "Nought" false) (xkit_NoDeed_TooLong_False : KiT K mg "NoDeed" "TooLong" false) (xcls_NoDeed : ∃ D, mg "NoDeed" = some (.ref D)) (xkit_NoRule_NoFit_False : KiT K mg "NoRule" "NoFit" false) (xkit_NoRule_NoRule_True : KiT K mg "NoRule" "NoRule" true) (xkit_NoRule_Nought_False : KiT K mg "NoRule" "Nought" false) (xkit_NoRule_TooLong_False : KiT K mg "NoRule" "TooLong" false) (xcls_NoRule : ∃ D, mg "NoRule" = some (.ref D)) (xkit_NoText_NoFit_False : KiT K mg "NoText" "NoFit" false) (xkit_NoText_NoRule_False : KiT K mg "NoText" "NoRule" false) (xkit_NoText_Nought_False : KiT K mg "NoText" "Nought" false) (xkit_NoText_TooLong_False : KiT K mg "NoText" "TooLong" false) (xcls_NoText : ∃ D, mg "NoText" = some (.ref D)) (xkit_NoName_NoFit_False : KiT K mg "NoName" "NoFit" false) (xkit_NoName_NoRule_False : KiT K mg "NoName" "NoRule" false) (xkit_NoName_Nought_False : KiT K mg "NoName" "Nought" false) (xkit_NoName_TooLong_False : KiT K mg "NoName" "TooLong" false) (xcls_NoName : ∃ D, mg "NoName" = some (.ref D)) (xkit_Unlike_NoFit_False : KiT K mg "Unlike" "NoFit" false) (xkit_Unlike_NoRule_False : KiT K mg "Unlike" "NoRule" false) (xkit_Unlike_Nought_False : KiT K mg "Unlike" "Nought" false) (xkit_Unlike_TooLong_False : KiT K mg "Unlike" "TooLong" false) (xcls_Unlike : ∃ D, mg "Unlike" = some (.ref D)) (xkit_Nought_NoFit_False : KiT K mg "Nought" "NoFit" false) (xkit_Nought_NoRule_False : KiT K mg "Nought" "NoRule" false) (xkit_Nought_Nought_True : KiT K mg "Nought" "Nought" true) (xkit_Nought_TooLong_False : KiT K mg "Nought" "TooLong" false) (xcls_Nought : ∃ D, mg "Nought" = some (.ref D)) (xkit_NothingDone_NoFit_False : KiT K mg "NothingDone" "NoFit" false) (xkit_NothingDone_NoRule_False : KiT K mg "NothingDone" "NoRule" false) (xkit_NothingDone_Nought_False : KiT K mg "NothingDone" "Nought" false) (xkit_NothingDone_TooLong_False : KiT K mg "NothingDone" "TooLong" false) (xcls_NothingDone : ∃ D, mg "NothingDone" = some (.ref D)) (xkit_NoLine_NoFit_False : KiT K mg "NoLine" "NoFit" false) (xkit_NoLine_NoRule_False : KiT K mg "NoLine" "NoRule" false) (xkit_NoLine_Nought_False : KiT K mg "NoLine" "Nought" false) (xkit_NoLine_TooLong_False : KiT K mg "NoLine" "TooLong" false) (xcls_NoLine : ∃ D, mg "NoLine" = some (.ref D)) (xkib_ValueError_NoFit : KiB K mg "ValueError" "NoFit") (xkib_ValueError_NoRule : KiB K mg "ValueError" "NoRule") (xkib_ValueError_Nought : KiB K mg "ValueError" "Nought") (xkib_ValueError_TooLong : KiB K mg "ValueError" "TooLong") (xnog_ValueError : mg "ValueError" = none) (xkit_LoftError_NoFit_True : KiT K mg "LoftError" "NoFit" true) (xkit_LoftError_NoRule_True : KiT K mg "LoftError" "NoRule" true) (xkit_LoftError_Nought_True : KiT K mg "LoftError" "Nought" true) (xkit_LoftError_TooLong_True : KiT K mg "LoftError" "TooLong" true) (xcls_LoftError : ∃ D, mg "LoftError" = some (.ref D))  :
    FnE P w K mg base (L2N.CX P w) 2 f fd ["_law_e"] (spE K mg ["NoFit", "NoRule", "Nought", "TooLong"] f_lsorts) := by
  refine fnE_ok F sc_lsorts (by decide) fun cdv A outer s H E p e C d hot hr hC hT hz hv => ?_
  have nd := sc_lsorts.nd
  have hm : (p.1, p.2) ∈ (L2H.cxH (L2N.CX P w) P w K mg base ["_law_e", "_law_sorts_here", "_law_word", "_law_here"] "_law_sorts" (defScope s_lsorts) f cdv A outer s H E p).pn := List.mem_singleton.mpr rfl
  have hcH : L2H.HotC (L2H.cxH (L2N.CX P w) P w K mg base ["_law_e", "_law_sorts_here", "_law_word", "_law_here"] "_law_sorts" (defScope s_lsorts) f cdv A outer s H E p) := ⟨p, ⟨hot.1, hot.2⟩, List.mem_singleton.mpr rfl⟩
  unfold m_lsorts
  exact mss_cons (ms_set (i := 1) nd rfl (.inl v_lsorts_1) (me_lst (ma_cons (me_tup (ma_cons (me_str) (ma_cons (mx_isG hm (xc_of (fs := []) (ts := ["NoFit", "NoRule", "Nought", "TooLong"]) (fa_cons xxcf_NoFit_ (fa_cons xxcf_NoRule_ (fa_cons xxcf_Nought_ (fa_cons xxcf_TooLong_ (fa_nil))))) hC hT) (ki_of (ts := ["NoFit", "NoRule", "Nought", "TooLong"]) (l := [("NoFit", false), ("NoRule", false), ("Nought", false), ("TooLong", false)]) (fa_cons xkit_NoShape_NoFit_False (fa_cons xkit_NoShape_NoRule_False (fa_cons xkit_NoShape_Nought_False (fa_cons xkit_NoShape_TooLong_False (fa_nil))))) (by decide) hT) xcls_NoShape hC hz hv rfl (.inl v_lsorts_0) B.isinstance (g_lsorts_isinstance _ _ _) (g_lsorts_NoShape _ _ _)) (ma_nil)))) (ma_cons (me_tup (ma_cons (me_str) (ma_cons (mx_isG hm (xc_of (fs := []) (ts := ["NoFit", "NoRule", "Nought", "TooLong"]) (fa_cons xxcf_NoFit_ (fa_cons xxcf_NoRule_ (fa_cons xxcf_Nought_ (fa_cons xxcf_TooLong_ (fa_nil))))) hC hT) (ki_of (ts := ["NoFit", "NoRule", "Nought", "TooLong"]) (l := [("NoFit", true), ("NoRule", false), ("Nought", false), ("TooLong", false)]) (fa_cons xkit_NoFit_NoFit_True (fa_cons xkit_NoFit_NoRule_False (fa_cons xkit_NoFit_Nought_False (fa_cons xkit_NoFit_TooLong_False (fa_nil))))) (by decide) hT) xcls_NoFit hC hz hv rfl (.inl v_lsorts_0) B.isinstance (g_lsorts_isinstance _ _ _) (g_lsorts_NoFit _ _ _)) (ma_nil)))) (ma_cons (me_tup (ma_cons (me_str) (ma_cons (mx_isG hm (xc_of (fs := []) (ts := ["NoFit", "NoRule", "Nought", "TooLong"]) (fa_cons xxcf_NoFit_ (fa_cons xxcf_NoRule_ (fa_cons xxcf_Nought_ (fa_cons xxcf_TooLong_ (fa_nil))))) hC hT) (ki_of (ts := ["NoFit", "NoRule", "Nought", "TooLong"]) (l := [("NoFit", false), ("NoRule", false), ("Nought", false), ("TooLong", false)]) (fa_cons xkit_Wrong_NoFit_False (fa_cons xkit_Wrong_NoRule_False (fa_cons xkit_Wrong_Nought_False (fa_cons xkit_Wrong_TooLong_False (fa_nil))))) (by decide) hT) xcls_Wrong hC hz hv rfl (.inl v_lsorts_0) B.isinstance (g_lsorts_isinstance _ _ _) (g_lsorts_Wrong _ _ _)) (ma_nil)))) (ma_nil)))))) (mss_cons (ms_set (i := 1) nd rfl (.inl v_lsorts_1) (me_add (me_var (i := 1) rfl (.inl v_lsorts_1)) (me_lst (ma_cons (me_tup (ma_cons (me_str) (ma_cons (mx_isG hm (xc_of (fs := []) (ts := ["NoFit", "NoRule", "Nought", "TooLong"]) (fa_cons xxcf_NoFit_ (fa_cons xxcf_NoRule_ (fa_cons xxcf_Nought_ (fa_cons xxcf_TooLong_ (fa_nil))))) hC hT) (ki_of (ts := ["NoFit", "NoRule", "Nought", "TooLong"]) (l := [("NoFit", false), ("NoRule", false), ("Nought", false), ("TooLong", false)]) (fa_cons xkit_NoTable_NoFit_False (fa_cons xkit_NoTable_NoRule_False (fa_cons xkit_NoTable_Nought_False (fa_cons xkit_NoTable_TooLong_False (fa_nil))))) (by decide) hT) xcls_NoTable hC hz hv rfl (.inl v_lsorts_0) B.isinstance (g_lsorts_isinstance _ _ _) (g_lsorts_NoTable _ _ _)) (ma_nil)))) (ma_cons (me_tup (ma_cons (me_str) (ma_cons (mx_isG hm (xc_of (fs := []) (ts := ["NoFit", "NoRule", "Nought", "TooLong"]) (fa_cons xxcf_NoFit_ (fa_cons xxcf_NoRule_ (fa_cons xxcf_Nought_ (fa_cons xxcf_TooLong_ (fa_nil))))) hC hT) (ki_of (ts := ["NoFit", "NoRule", "Nought", "TooLong"]) (l := [("NoFit", false), ("NoRule", false), ("Nought", false), ("TooLong", false)]) (fa_cons xkit_NoRow_NoFit_False (fa_cons xkit_NoRow_NoRule_False (fa_cons xkit_NoRow_Nought_False (fa_cons xkit_NoRow_TooLong_False (fa_nil))))) (by decide) hT) xcls_NoRow hC hz hv rfl (.inl v_lsorts_0) B.isinstance (g_lsorts_isinstance _ _ _) (g_lsorts_NoRow _ _ _)) (ma_nil)))) (ma_nil)))))) (mss_cons (ms_set (i := 1) nd rfl (.inl v_lsorts_1) (me_add (me_var (i := 1) rfl (.inl v_lsorts_1)) (me_lst (ma_cons (me_tup (ma_cons (me_str) (ma_cons (mx_isG hm (xc_of (fs := []) (ts := ["NoFit", "NoRule", "Nought", "TooLong"]) (fa_cons xxcf_NoFit_ (fa_cons xxcf_NoRule_ (fa_cons xxcf_Nought_ (fa_cons xxcf_TooLong_ (fa_nil))))) hC hT) (ki_of (ts := ["NoFit", "NoRule", "Nought", "TooLong"]) (l := [("NoFit", false), ("NoRule", false), ("Nought", false), ("TooLong", false)]) (fa_cons xkit_BadLine_NoFit_False (fa_cons xkit_BadLine_NoRule_False (fa_cons xkit_BadLine_Nought_False (fa_cons xkit_BadLine_TooLong_False (fa_nil))))) (by decide) hT) xcls_BadLine hC hz hv rfl (.inl v_lsorts_0) B.isinstance (g_lsorts_isinstance _ _ _) (g_lsorts_BadLine _ _ _)) (ma_nil)))) (ma_cons (me_tup (ma_cons (me_str) (ma_cons (mx_isG hm (xc_of (fs := []) (ts := ["NoFit", "NoRule", "Nought", "TooLong"]) (fa_cons xxcf_NoFit_ (fa_cons xxcf_NoRule_ (fa_cons xxcf_Nought_ (fa_cons xxcf_TooLong_ (fa_nil))))) hC hT) (ki_of (ts := ["NoFit", "NoRule", "Nought", "TooLong"]) (l := [("NoFit", false), ("NoRule", false), ("Nought", false), ("TooLong", true)]) (fa_cons xkit_TooLong_NoFit_False (fa_cons xkit_TooLong_NoRule_False (fa_cons xkit_TooLong_Nought_False (fa_cons xkit_TooLong_TooLong_True (fa_nil))))) (by decide) hT) xcls_TooLong hC hz hv rfl (.inl v_lsorts_0) B.isinstance (g_lsorts_isinstance _ _ _) (g_lsorts_TooLong _ _ _)) (ma_nil)))) (ma_nil)))))) (mss_cons (ms_set (i := 1) nd rfl (.inl v_lsorts_1) (me_add (me_var (i := 1) rfl (.inl v_lsorts_1)) (me_lst (ma_cons (me_tup (ma_cons (me_str) (ma_cons (mx_isG hm (xc_of (fs := []) (ts := ["NoFit", "NoRule", "Nought", "TooLong"]) (fa_cons xxcf_NoFit_ (fa_cons xxcf_NoRule_ (fa_cons xxcf_Nought_ (fa_cons xxcf_TooLong_ (fa_nil))))) hC hT) (ki_of (ts := ["NoFit", "NoRule", "Nought", "TooLong"]) (l := [("NoFit", false), ("NoRule", true), ("Nought", false), ("TooLong", false)]) (fa_cons xkit_NoRule_NoFit_False (fa_cons xkit_NoRule_NoRule_True (fa_cons xkit_NoRule_Nought_False (fa_cons xkit_NoRule_TooLong_False (fa_nil))))) (by decide) hT) xcls_NoRule hC hz hv rfl (.inl v_lsorts_0) B.isinstance (g_lsorts_isinstance _ _ _) (g_lsorts_NoRule _ _ _)) (ma_nil)))) (ma_cons (me_tup (ma_cons (me_str) (ma_cons (mx_isG hm (xc_of (fs := []) (ts := ["NoFit", "NoRule", "Nought", "TooLong"]) (fa_cons xxcf_NoFit_ (fa_cons xxcf_NoRule_ (fa_cons xxcf_Nought_ (fa_cons xxcf_TooLong_ (fa_nil))))) hC hT) (ki_of (ts := ["NoFit", "NoRule", "Nought", "TooLong"]) (l := [("NoFit", false), ("NoRule", false), ("Nought", false), ("TooLong", false)]) (fa_cons xkit_NoDeed_NoFit_False (fa_cons xkit_NoDeed_NoRule_False (fa_cons xkit_NoDeed_Nought_False (fa_cons xkit_NoDeed_TooLong_False (fa_nil))))) (by decide) hT) xcls_NoDeed hC hz hv rfl (.inl v_lsorts_0) B.isinstance (g_lsorts_isinstance _ _ _) (g_lsorts_NoDeed _ _ _)) (ma_nil)))) (ma_nil)))))) (mss_cons (ms_set (i := 1) nd rfl (.inl v_lsorts_1) (me_add (me_var (i := 1) rfl (.inl v_lsorts_1)) (me_lst (ma_cons (me_tup (ma_cons (me_str) (ma_cons (mx_isG hm (xc_of (fs := []) (ts := ["NoFit", "NoRule", "Nought", "TooLong"]) (fa_cons xxcf_NoFit_ (fa_cons xxcf_NoRule_ (fa_cons xxcf_Nought_ (fa_cons xxcf_TooLong_ (fa_nil))))) hC hT) (ki_of (ts := ["NoFit", "NoRule", "Nought", "TooLong"]) (l := [("NoFit", false), ("NoRule", false), ("Nought", false), ("TooLong", false)]) (fa_cons xkit_NoName_NoFit_False (fa_cons xkit_NoName_NoRule_False (fa_cons xkit_NoName_Nought_False (fa_cons xkit_NoName_TooLong_False (fa_nil))))) (by decide) hT) xcls_NoName hC hz hv rfl (.inl v_lsorts_0) B.isinstance (g_lsorts_isinstance _ _ _) (g_lsorts_NoName _ _ _)) (ma_nil)))) (ma_cons (me_tup (ma_cons (me_str) (ma_cons (mx_isG hm (xc_of (fs := []) (ts := ["NoFit", "NoRule", "Nought", "TooLong"]) (fa_cons xxcf_NoFit_ (fa_cons xxcf_NoRule_ (fa_cons xxcf_Nought_ (fa_cons xxcf_TooLong_ (fa_nil))))) hC hT) (ki_of (ts := ["NoFit", "NoRule", "Nought", "TooLong"]) (l := [("NoFit", false), ("NoRule", false), ("Nought", false), ("TooLong", false)]) (fa_cons xkit_NoText_NoFit_False (fa_cons xkit_NoText_NoRule_False (fa_cons xkit_NoText_Nought_False (fa_cons xkit_NoText_TooLong_False (fa_nil))))) (by decide) hT) xcls_NoText hC hz hv rfl (.inl v_lsorts_0) B.isinstance (g_lsorts_isinstance _ _ _) (g_lsorts_NoText _ _ _)) (ma_nil)))) (ma_nil)))))) (mss_cons (ms_set (i := 1) nd rfl (.inl v_lsorts_1) (me_add (me_var (i := 1) rfl (.inl v_lsorts_1)) (me_lst (ma_cons (me_tup (ma_cons (me_str) (ma_cons (mx_isG hm (xc_of (fs := []) (ts := ["NoFit", "NoRule", "Nought", "TooLong"]) (fa_cons xxcf_NoFit_ (fa_cons xxcf_NoRule_ (fa_cons xxcf_Nought_ (fa_cons xxcf_TooLong_ (fa_nil))))) hC hT) (ki_of (ts := ["NoFit", "NoRule", "Nought", "TooLong"]) (l := [("NoFit", false), ("NoRule", false), ("Nought", true), ("TooLong", false)]) (fa_cons xkit_Nought_NoFit_False (fa_cons xkit_Nought_NoRule_False (fa_cons xkit_Nought_Nought_True (fa_cons xkit_Nought_TooLong_False (fa_nil))))) (by decide) hT) xcls_Nought hC hz hv rfl (.inl v_lsorts_0) B.isinstance (g_lsorts_isinstance _ _ _) (g_lsorts_Nought _ _ _)) (ma_nil)))) (ma_cons (me_tup (ma_cons (me_str) (ma_cons (mx_isG hm (xc_of (fs := []) (ts := ["NoFit", "NoRule", "Nought", "TooLong"]) (fa_cons xxcf_NoFit_ (fa_cons xxcf_NoRule_ (fa_cons xxcf_Nought_ (fa_cons xxcf_TooLong_ (fa_nil))))) hC hT) (ki_of (ts := ["NoFit", "NoRule", "Nought", "TooLong"]) (l := [("NoFit", false), ("NoRule", false), ("Nought", false), ("TooLong", false)]) (fa_cons xkit_Unlike_NoFit_False (fa_cons xkit_Unlike_NoRule_False (fa_cons xkit_Unlike_Nought_False (fa_cons xkit_Unlike_TooLong_False (fa_nil))))) (by decide) hT) xcls_Unlike hC hz hv rfl (.inl v_lsorts_0) B.isinstance (g_lsorts_isinstance _ _ _) (g_lsorts_Unlike _ _ _)) (ma_nil)))) (ma_nil)))))) (mss_cons (ms_set (i := 1) nd rfl (.inl v_lsorts_1) (me_add (me_var (i := 1) rfl (.inl v_lsorts_1)) (me_lst (ma_cons (me_tup (ma_cons (me_str) (ma_cons (mx_isG hm (xc_of (fs := []) (ts := ["NoFit", "NoRule", "Nought", "TooLong"]) (fa_cons xxcf_NoFit_ (fa_cons xxcf_NoRule_ (fa_cons xxcf_Nought_ (fa_cons xxcf_TooLong_ (fa_nil))))) hC hT) (ki_of (ts := ["NoFit", "NoRule", "Nought", "TooLong"]) (l := [("NoFit", false), ("NoRule", false), ("Nought", false), ("TooLong", false)]) (fa_cons xkit_NoLine_NoFit_False (fa_cons xkit_NoLine_NoRule_False (fa_cons xkit_NoLine_Nought_False (fa_cons xkit_NoLine_TooLong_False (fa_nil))))) (by decide) hT) xcls_NoLine hC hz hv rfl (.inl v_lsorts_0) B.isinstance (g_lsorts_isinstance _ _ _) (g_lsorts_NoLine _ _ _)) (ma_nil)))) (ma_cons (me_tup (ma_cons (me_str) (ma_cons (mx_isG hm (xc_of (fs := []) (ts := ["NoFit", "NoRule", "Nought", "TooLong"]) (fa_cons xxcf_NoFit_ (fa_cons xxcf_NoRule_ (fa_cons xxcf_Nought_ (fa_cons xxcf_TooLong_ (fa_nil))))) hC hT) (ki_of (ts := ["NoFit", "NoRule", "Nought", "TooLong"]) (l := [("NoFit", false), ("NoRule", false), ("Nought", false), ("TooLong", false)]) (fa_cons xkit_NothingDone_NoFit_False (fa_cons xkit_NothingDone_NoRule_False (fa_cons xkit_NothingDone_Nought_False (fa_cons xkit_NothingDone_TooLong_False (fa_nil))))) (by decide) hT) xcls_NothingDone hC hz hv rfl (.inl v_lsorts_0) B.isinstance (g_lsorts_isinstance _ _ _) (g_lsorts_NothingDone _ _ _)) (ma_nil)))) (ma_nil)))))) (mss_cons (ms_set (i := 1) nd rfl (.inl v_lsorts_1) (me_add (me_var (i := 1) rfl (.inl v_lsorts_1)) (me_lst (ma_cons (me_tup (ma_cons (me_str) (ma_cons (me_not (mx_isG hm (xc_of (fs := []) (ts := ["NoFit", "NoRule", "Nought", "TooLong"]) (fa_cons xxcf_NoFit_ (fa_cons xxcf_NoRule_ (fa_cons xxcf_Nought_ (fa_cons xxcf_TooLong_ (fa_nil))))) hC hT) (ki_of (ts := ["NoFit", "NoRule", "Nought", "TooLong"]) (l := [("NoFit", true), ("NoRule", true), ("Nought", true), ("TooLong", true)]) (fa_cons xkit_LoftError_NoFit_True (fa_cons xkit_LoftError_NoRule_True (fa_cons xkit_LoftError_Nought_True (fa_cons xkit_LoftError_TooLong_True (fa_nil))))) (by decide) hT) xcls_LoftError hC hz hv rfl (.inl v_lsorts_0) B.isinstance (g_lsorts_isinstance _ _ _) (g_lsorts_LoftError _ _ _))) (ma_nil)))) (ma_cons (me_tup (ma_cons (me_str) (ma_cons (me_not (mx_isT hm (xc_of (fs := []) (ts := ["NoFit", "NoRule", "Nought", "TooLong"]) (fa_cons xxcf_NoFit_ (fa_cons xxcf_NoRule_ (fa_cons xxcf_Nought_ (fa_cons xxcf_TooLong_ (fa_nil))))) hC hT) (kib_of (ts := ["NoFit", "NoRule", "Nought", "TooLong"]) (fa_cons xkib_ValueError_NoFit (fa_cons xkib_ValueError_NoRule (fa_cons xkib_ValueError_Nought (fa_cons xkib_ValueError_TooLong (fa_nil))))) hC hT) (by decide) hz hv rfl (.inl v_lsorts_0) B.isinstance (g_lsorts_isinstance _ _ _) (g_lsorts_ValueError _ _ _) xnog_ValueError (by decide +kernel))) (ma_nil)))) (ma_nil)))))) (mss_one (ms_ret (me_sm ss_join PySem.F.slot_str_join PySem.F.type_str_join mt_join (me_str) (ma_cons (me_fz (mo_lcS (own := [("_law_word", 2), ("_law_here", 3)]) (g := .tp [2, 3]) hcH nd (mi_listS (me_var (i := 1) rfl (.inl v_lsorts_1))) (blkOk_at (N' := ["_law_e", "_law_sorts_here", "_law_word", "_law_here"]) (sc' := defScope s_lsorts) rfl rfl (by decide +kernel)) (fun _ _ _ _ _ hh => pg_tupS hh (pgs_cons (pg_name (i := 2) nd rfl (Or.inl rfl)) (pgs_cons (pg_name (i := 3) nd rfl (Or.inl rfl)) (pgs_nil)))) (fun _ _ _ _ _ => mts_one (mt_val (me_var (i := 3) rfl (.inl rfl)))) (fun _ _ _ _ _ => me_var (i := 2) rfl (.inl rfl)) (hbs := hbs_of rfl))) (ma_nil))))))))))))

abbrev s_ptried : Stmt := top 31
theorem sc_ptried : FnScope ["ahead", "other", "left", "figure", "four", "times", "worth"] ["ahead", "other"] (defScope s_ptried) := ⟨rfl, rfl, rfl, by decide +kernel, rfl, by decide +kernel, by decide +kernel⟩
theorem v_ptried_0 : (defScope s_ptried).names.lookup ("ahead" : Str) = some NameKind.local := by decide +kernel
theorem v_ptried_1 : (defScope s_ptried).names.lookup ("other" : Str) = some NameKind.local := by decide +kernel
theorem v_ptried_2 : (defScope s_ptried).names.lookup ("left" : Str) = some NameKind.local := by decide +kernel
theorem v_ptried_3 : (defScope s_ptried).names.lookup ("figure" : Str) = some NameKind.local := by decide +kernel
theorem v_ptried_4 : (defScope s_ptried).names.lookup ("four" : Str) = some NameKind.local := by decide +kernel
theorem v_ptried_5 : (defScope s_ptried).names.lookup ("times" : Str) = some NameKind.local := by decide +kernel
theorem v_ptried_6 : (defScope s_ptried).names.lookup ("worth" : Str) = some NameKind.local := by decide +kernel
theorem g_ptried_tuple (L a : Addr) (cd : Value) : (PyProof.Rows.envOfC "tried" (defScope s_ptried) L a cd).kindOf ("tuple" : Str) = some NameKind.globalImplicit := rfl
theorem ok_ptried {P : Program} {w : World} {K : PySem.W.Frag} {mg : Str → Option Value} {base : Heap} {f : Addr} {fd : FuncData} (F : Fun K "tried" "tried" s_ptried f fd) (B : Bn mg)     :
    FnOk P w K mg base (L2N.CX P w) 2 f fd ["ahead", "other"] (spF K mg 2 [] f_ptried) := by
  refine fn_ok F sc_ptried (by decide) (by decide) fun cdv A outer s H E hr => ?_
  have nd := sc_ptried.nd
  have tk : L2N.Takes (cxOf (L2N.CX P w) P w K mg base ["ahead", "other", "left", "figure", "four", "times", "worth"] "tried" (defScope s_ptried) f cdv A outer s H E) (fun cls d _ H => E cls d H) := L2N.takes_of rfl rfl rfl rfl
  have pn : PassesOwn (model P w) (cxOf (L2N.CX P w) P w K mg base ["ahead", "other", "left", "figure", "four", "times", "worth"] "tried" (defScope s_ptried) f cdv A outer s H E).A (cxOf (L2N.CX P w) P w K mg base ["ahead", "other", "left", "figure", "four", "times", "worth"] "tried" (defScope s_ptried) f cdv A outer s H E).env (cxOf (L2N.CX P w) P w K mg base ["ahead", "other", "left", "figure", "four", "times", "worth"] "tried" (defScope s_ptried) f cdv A outer s H E).xe := passes_of rfl
  unfold m_ptried
  exact mss_cons (ms_set (i := 2) nd rfl (.inl v_ptried_2) (me_var (i := 0) rfl (.inl v_ptried_0))) (mss_cons (ms_set (i := 3) nd rfl (.inl v_ptried_3) (me_int)) (mss_cons (ms_setO (i := 4) nd rfl (.inl v_ptried_4) (mo_lst (ma_nil))) (mss_cons (ms_for pn rfl (mi_val (me_tup (ma_cons (me_int) (ma_cons (me_int) (ma_cons (me_int) (ma_cons (me_int) (ma_nil))))))) (mg_name (i := 5) nd rfl (.inl v_ptried_5)) (mss_cons (ms_set (i := 6) nd rfl (.inl v_ptried_6) (me_mul (me_var (i := 5) rfl (.inl v_ptried_5)) (me_var (i := 1) rfl (.inl v_ptried_1)))) (mss_cons (ms_expr (me_lm1 ls_append PySem.F.slot_list_append PySem.F.type_list_append mt_append (i := 4) rfl (.inl v_ptried_4) (ma_cons (me_tup (ma_cons (me_var (i := 5) rfl (.inl v_ptried_5)) (ma_cons (me_var (i := 6) rfl (.inl v_ptried_6)) (ma_cons (me_cmp op_le os_le (me_var (i := 6) rfl (.inl v_ptried_6)) (me_var (i := 2) rfl (.inl v_ptried_2)) (nomark _)) (ma_nil))))) (ma_nil)))) (mss_one (ms_if (mt_cmp op_le os_le (me_var (i := 6) rfl (.inl v_ptried_6)) (me_var (i := 2) rfl (.inl v_ptried_2)) (nomark _)) (mss_cons (ms_augSub (i := 2) nd rfl (.inl v_ptried_2) (me_var (i := 6) rfl (.inl v_ptried_6))) (mss_one (ms_augAdd (i := 3) nd rfl (.inl v_ptried_3) (me_var (i := 5) rfl (.inl v_ptried_5))))) (mss_nil)))))) (mss_one (ms_ret (me_tup (ma_cons (me_var (i := 0) rfl (.inl v_ptried_0)) (ma_cons (mb_tuple B.tuple (ma_cons (me_var (i := 4) rfl (.inl v_ptried_4)) (ma_nil)) (hg := (g_ptried_tuple _ _ _))) (ma_cons (me_var (i := 3) rfl (.inl v_ptried_3)) (ma_cons (me_var (i := 2) rfl (.inl v_ptried_2)) (ma_nil)))))))))))

abbrev s_ptries : Stmt := top 32
theorem sc_ptries : FnScope ["one", "other", "lines", "behind", "figure", "line"] ["one", "other"] (defScope s_ptries) := ⟨rfl, rfl, rfl, by decide +kernel, rfl, by decide +kernel, by decide +kernel⟩
theorem v_ptries_0 : (defScope s_ptries).names.lookup ("one" : Str) = some NameKind.local := by decide +kernel
theorem v_ptries_1 : (defScope s_ptries).names.lookup ("other" : Str) = some NameKind.local := by decide +kernel
theorem v_ptries_2 : (defScope s_ptries).names.lookup ("lines" : Str) = some NameKind.local := by decide +kernel
theorem v_ptries_3 : (defScope s_ptries).names.lookup ("behind" : Str) = some NameKind.local := by decide +kernel
theorem v_ptries_4 : (defScope s_ptries).names.lookup ("figure" : Str) = some NameKind.local := by decide +kernel
theorem v_ptries_5 : (defScope s_ptries).names.lookup ("line" : Str) = some NameKind.local := by decide +kernel
theorem g_ptries_Nought (L a : Addr) (cd : Value) : (PyProof.Rows.envOfC "tries" (defScope s_ptries) L a cd).kindOf ("Nought" : Str) = some NameKind.globalImplicit := rfl
theorem g_ptries_BOUND (L a : Addr) (cd : Value) : (PyProof.Rows.envOfC "tries" (defScope s_ptries) L a cd).kindOf ("BOUND" : Str) = some NameKind.globalImplicit := rfl
theorem g_ptries_NoFit (L a : Addr) (cd : Value) : (PyProof.Rows.envOfC "tries" (defScope s_ptries) L a cd).kindOf ("NoFit" : Str) = some NameKind.globalImplicit := rfl
theorem g_ptries_str (L a : Addr) (cd : Value) : (PyProof.Rows.envOfC "tries" (defScope s_ptries) L a cd).kindOf ("str" : Str) = some NameKind.globalImplicit := rfl
theorem g_ptries_len (L a : Addr) (cd : Value) : (PyProof.Rows.envOfC "tries" (defScope s_ptries) L a cd).kindOf ("len" : Str) = some NameKind.globalImplicit := rfl
theorem g_ptries_figures_of (L a : Addr) (cd : Value) : (PyProof.Rows.envOfC "tries" (defScope s_ptries) L a cd).kindOf ("figures_of" : Str) = some NameKind.globalImplicit := rfl
theorem g_ptries_tried (L a : Addr) (cd : Value) : (PyProof.Rows.envOfC "tries" (defScope s_ptries) L a cd).kindOf ("tried" : Str) = some NameKind.globalImplicit := rfl
theorem g_ptries_tuple (L a : Addr) (cd : Value) : (PyProof.Rows.envOfC "tries" (defScope s_ptries) L a cd).kindOf ("tuple" : Str) = some NameKind.globalImplicit := rfl
theorem ok_ptries {P : Program} {w : World} {K : PySem.W.Frag} {mg : Str → Option Value} {base : Heap} {f : Addr} {fd : FuncData} (F : Fun K "tries" "tries" s_ptries f fd) (B : Bn mg) (h_pfigures_of : Fd P w K mg base "figures_of" 2 ["number", "many"] [] f_pfigures_of) (h_ptried : Fd P w K mg base "tried" 2 ["ahead", "other"] [] f_ptried)  (xcl0_Nought : Cl0 K mg "Nought") (xcl1_NoFit_number : Cl1 P w K mg base "NoFit" "number") (c_BOUND : Cst K mg "BOUND" (.int 1000000000000)) :
    FnOk P w K mg base (L2N.CX P w) 4 f fd ["one", "other"] (spF K mg 2 [] f_ptries) := by
  refine fn_ok F sc_ptries (by decide) (by decide) fun cdv A outer s H E hr => ?_
  have nd := sc_ptries.nd
  have tk : L2N.Takes (cxOf (L2N.CX P w) P w K mg base ["one", "other", "lines", "behind", "figure", "line"] "tries" (defScope s_ptries) f cdv A outer s H E) (fun cls d _ H => E cls d H) := L2N.takes_of rfl rfl rfl rfl
  have pn : PassesOwn (model P w) (cxOf (L2N.CX P w) P w K mg base ["one", "other", "lines", "behind", "figure", "line"] "tries" (defScope s_ptries) f cdv A outer s H E).A (cxOf (L2N.CX P w) P w K mg base ["one", "other", "lines", "behind", "figure", "line"] "tries" (defScope s_ptries) f cdv A outer s H E).env (cxOf (L2N.CX P w) P w K mg base ["one", "other", "lines", "behind", "figure", "line"] "tries" (defScope s_ptries) f cdv A outer s H E).xe := passes_of rfl
  unfold m_ptries
  exact mss_cons (ms_if (mt_cmp (op_eqM hr.units) os_eq (me_var (i := 1) rfl (.inl v_ptries_1)) (me_int) (nomark _)) (mss_one (ms_raise0 xcl0_Nought rfl tk (g_ptries_Nought _ _ _))) (mss_nil)) (mss_cons (ms_if (mt_not (mt_chain op_le os_le op_lt os_lt (me_int) (me_var (i := 0) rfl (.inl v_ptries_0)) (mf_con c_BOUND (hg := (g_ptries_BOUND _ _ _))))) (mss_one (ms_raise1 xcl1_NoFit_number rfl hr (by decide) tk (g_ptries_NoFit _ _ _) (me_var (i := 0) rfl (.inl v_ptries_0)))) (mss_nil)) (mss_cons (ms_if (mt_not (mt_chain op_lt os_lt op_lt os_lt (me_int) (me_var (i := 1) rfl (.inl v_ptries_1)) (mf_con c_BOUND (hg := (g_ptries_BOUND _ _ _))))) (mss_one (ms_raise1 xcl1_NoFit_number rfl hr (by decide) tk (g_ptries_NoFit _ _ _) (me_var (i := 1) rfl (.inl v_ptries_1)))) (mss_nil)) (mss_cons (ms_setO (i := 2) nd rfl (.inl v_ptries_2) (mo_lst (ma_nil))) (mss_cons (ms_set (i := 3) nd rfl (.inl v_ptries_3) (me_int)) (mss_cons (ms_for pn rfl (mi_val (me_fz (mf_call h_pfigures_of hr (by decide) tk (ma_cons (me_var (i := 0) rfl (.inl v_ptries_0)) (ma_cons (mb_len B.len (ma_cons (mb_str B.str (ma_cons (me_var (i := 0) rfl (.inl v_ptries_0)) (ma_nil)) (hg := (g_ptries_str _ _ _))) (ma_nil)) (hg := (g_ptries_len _ _ _))) (ma_nil))) (lng_cons (lng_cons lng_nil)) (hg := (g_ptries_figures_of _ _ _))))) (mg_name (i := 4) nd rfl (.inl v_ptries_4)) (mss_cons (ms_set (i := 5) nd rfl (.inl v_ptries_5) (me_fz (mf_call h_ptried hr (by decide) tk (ma_cons (me_add (me_mul (me_int) (me_var (i := 3) rfl (.inl v_ptries_3))) (me_var (i := 4) rfl (.inl v_ptries_4))) (ma_cons (me_var (i := 1) rfl (.inl v_ptries_1)) (ma_nil))) (lng_cons (lng_cons lng_nil)) (hg := (g_ptries_tried _ _ _))))) (mss_cons (ms_expr (me_lm1 ls_append PySem.F.slot_list_append PySem.F.type_list_append mt_append (i := 2) rfl (.inl v_ptries_2) (ma_cons (me_var (i := 5) rfl (.inl v_ptries_5)) (ma_nil)))) (mss_one (ms_set (i := 3) nd rfl (.inl v_ptries_3) (me_ix (me_var (i := 5) rfl (.inl v_ptries_5)) (me_int))))))) (mss_one (ms_ret (mb_tuple B.tuple (ma_cons (me_var (i := 2) rfl (.inl v_ptries_2)) (ma_nil)) (hg := (g_ptries_tuple _ _ _))))))))))

abbrev s_ptries_hold : Stmt := top 37
theorem sc_ptries_hold : FnScope ["one", "other", "paper"] ["one", "other", "paper"] (defScope s_ptries_hold) := ⟨rfl, rfl, rfl, by decide +kernel, rfl, by decide +kernel, by decide +kernel⟩
theorem v_ptries_hold_0 : (defScope s_ptries_hold).names.lookup ("one" : Str) = some NameKind.local := by decide +kernel
theorem v_ptries_hold_1 : (defScope s_ptries_hold).names.lookup ("other" : Str) = some NameKind.local := by decide +kernel
theorem v_ptries_hold_2 : (defScope s_ptries_hold).names.lookup ("paper" : Str) = some NameKind.local := by decide +kernel
theorem g_ptries_hold_tries (L a : Addr) (cd : Value) : (PyProof.Rows.envOfC "tries_hold" (defScope s_ptries_hold) L a cd).kindOf ("tries" : Str) = some NameKind.globalImplicit := rfl
theorem g_ptries_hold_is_just (L a : Addr) (cd : Value) : (PyProof.Rows.envOfC "tries_hold" (defScope s_ptries_hold) L a cd).kindOf ("is_just" : Str) = some NameKind.globalImplicit := rfl
theorem ok_ptries_hold {P : Program} {w : World} {K : PySem.W.Frag} {mg : Str → Option Value} {base : Heap} {f : Addr} {fd : FuncData} (F : Fun K "tries_hold" "tries_hold" s_ptries_hold f fd) (B : Bn mg) (h_pis_just : Fd P w K mg base "is_just" 10 ["thing", "due"] [] f_pis_just) (h_ptries : Fd P w K mg base "tries" 4 ["one", "other"] [] f_ptries)    :
    FnOk P w K mg base (L2N.CX P w) 12 f fd ["one", "other", "paper"] (spF K mg 3 [] f_ptries_hold) := by
  refine fn_ok F sc_ptries_hold (by decide) (by decide) fun cdv A outer s H E hr => ?_
  have nd := sc_ptries_hold.nd
  have tk : L2N.Takes (cxOf (L2N.CX P w) P w K mg base ["one", "other", "paper"] "tries_hold" (defScope s_ptries_hold) f cdv A outer s H E) (fun cls d _ H => E cls d H) := L2N.takes_of rfl rfl rfl rfl
  have pn : PassesOwn (model P w) (cxOf (L2N.CX P w) P w K mg base ["one", "other", "paper"] "tries_hold" (defScope s_ptries_hold) f cdv A outer s H E).A (cxOf (L2N.CX P w) P w K mg base ["one", "other", "paper"] "tries_hold" (defScope s_ptries_hold) f cdv A outer s H E).env (cxOf (L2N.CX P w) P w K mg base ["one", "other", "paper"] "tries_hold" (defScope s_ptries_hold) f cdv A outer s H E).xe := passes_of rfl
  unfold m_ptries_hold
  exact mss_one (ms_ret (me_fz (mf_call h_pis_just hr (by decide) tk (ma_cons (me_var (i := 2) rfl (.inl v_ptries_hold_2)) (ma_cons (me_fz (mf_call h_ptries hr (by decide) tk (ma_cons (me_var (i := 0) rfl (.inl v_ptries_hold_0)) (ma_cons (me_var (i := 1) rfl (.inl v_ptries_hold_1)) (ma_nil))) (lng_cons (lng_cons lng_nil)) (hg := (g_ptries_hold_tries _ _ _)))) (ma_nil))) (lng_cons (lng_cons lng_nil)) (hg := (g_ptries_hold_is_just _ _ _)))))

abbrev s_pone_more : Stmt := top 23
theorem sc_pone_more : FnScope ["size", "rest", "ten", "rule", "below"] ["size", "rest", "ten", "rule", "below"] (defScope s_pone_more) := ⟨rfl, rfl, rfl, by decide +kernel, rfl, by decide +kernel, by decide +kernel⟩
theorem v_pone_more_0 : (defScope s_pone_more).names.lookup ("size" : Str) = some NameKind.local := by decide +kernel
theorem v_pone_more_1 : (defScope s_pone_more).names.lookup ("rest" : Str) = some NameKind.local := by decide +kernel
theorem v_pone_more_2 : (defScope s_pone_more).names.lookup ("ten" : Str) = some NameKind.local := by decide +kernel
theorem v_pone_more_3 : (defScope s_pone_more).names.lookup ("rule" : Str) = some NameKind.local := by decide +kernel
theorem v_pone_more_4 : (defScope s_pone_more).names.lookup ("below" : Str) = some NameKind.local := by decide +kernel
theorem ok_pone_more {P : Program} {w : World} {K : PySem.W.Frag} {mg : Str → Option Value} {base : Heap} {f : Addr} {fd : FuncData} (F : Fun K "one_more" "one_more" s_pone_more f fd) (B : Bn mg)     :
    FnOk P w K mg base (L2N.CX P w) 2 f fd ["size", "rest", "ten", "rule", "below"] (spF K mg 5 [] f_pone_more) := by
  refine fn_ok F sc_pone_more (by decide) (by decide) fun cdv A outer s H E hr => ?_
  have nd := sc_pone_more.nd
  have tk : L2N.Takes (cxOf (L2N.CX P w) P w K mg base ["size", "rest", "ten", "rule", "below"] "one_more" (defScope s_pone_more) f cdv A outer s H E) (fun cls d _ H => E cls d H) := L2N.takes_of rfl rfl rfl rfl
  have pn : PassesOwn (model P w) (cxOf (L2N.CX P w) P w K mg base ["size", "rest", "ten", "rule", "below"] "one_more" (defScope s_pone_more) f cdv A outer s H E).A (cxOf (L2N.CX P w) P w K mg base ["size", "rest", "ten", "rule", "below"] "one_more" (defScope s_pone_more) f cdv A outer s H E).env (cxOf (L2N.CX P w) P w K mg base ["size", "rest", "ten", "rule", "below"] "one_more" (defScope s_pone_more) f cdv A outer s H E).xe := passes_of rfl
  unfold m_pone_more
  exact mss_cons (ms_if (mt_cmp (op_eqM hr.units) os_eq (me_var (i := 3) rfl (.inl v_pone_more_3)) (me_str) (nomark _)) (mss_one (ms_ret (me_cmp op_gt os_gt (me_var (i := 1) rfl (.inl v_pone_more_1)) (me_int) (nomark _)))) (mss_nil)) (mss_cons (ms_if (mt_cmp (op_eqM hr.units) os_eq (me_var (i := 3) rfl (.inl v_pone_more_3)) (me_str) (nomark _)) (mss_one (ms_ret (me_cmp op_ge os_ge (me_mul (me_int) (me_var (i := 1) rfl (.inl v_pone_more_1))) (me_var (i := 2) rfl (.inl v_pone_more_2)) (nomark _)))) (mss_nil)) (mss_cons (ms_if (mt_cmp (op_eqM hr.units) os_eq (me_var (i := 3) rfl (.inl v_pone_more_3)) (me_str) (nomark _)) (mss_one (ms_ret (me_or (me_cmp op_gt os_gt (me_mul (me_int) (me_var (i := 1) rfl (.inl v_pone_more_1))) (me_var (i := 2) rfl (.inl v_pone_more_2)) (nomark _)) (me_one (me_and (me_cmp (op_eqM hr.units) os_eq (me_mul (me_int) (me_var (i := 1) rfl (.inl v_pone_more_1))) (me_var (i := 2) rfl (.inl v_pone_more_2)) (nomark _)) (me_one (me_cmp (op_eqM hr.units) os_eq (me_mod (me_var (i := 0) rfl (.inl v_pone_more_0)) (me_int)) (me_int) (nomark _)))))))) (mss_nil)) (mss_cons (ms_if (mt_cmp (op_eqM hr.units) os_eq (me_var (i := 3) rfl (.inl v_pone_more_3)) (me_str) (nomark _)) (mss_one (ms_ret (me_and (me_cmp op_gt os_gt (me_var (i := 1) rfl (.inl v_pone_more_1)) (me_int) (nomark _)) (me_one (me_var (i := 4) rfl (.inl v_pone_more_4)))))) (mss_nil)) (mss_one (ms_ret (me_and (me_cmp (op_eqM hr.units) os_eq (me_var (i := 3) rfl (.inl v_pone_more_3)) (me_str) (nomark _)) (me_and (me_cmp op_gt os_gt (me_var (i := 1) rfl (.inl v_pone_more_1)) (me_int) (nomark _)) (me_one (me_not (me_var (i := 4) rfl (.inl v_pone_more_4)))))))))))

abbrev s_prounded : Stmt := top 24
theorem sc_prounded : FnScope ["number", "by", "rule", "ten", "size"] ["number", "by", "rule"] (defScope s_prounded) := ⟨rfl, rfl, rfl, by decide +kernel, rfl, by decide +kernel, by decide +kernel⟩
theorem v_prounded_0 : (defScope s_prounded).names.lookup ("number" : Str) = some NameKind.local := by decide +kernel
theorem v_prounded_1 : (defScope s_prounded).names.lookup ("by" : Str) = some NameKind.local := by decide +kernel
theorem v_prounded_2 : (defScope s_prounded).names.lookup ("rule" : Str) = some NameKind.local := by decide +kernel
theorem v_prounded_3 : (defScope s_prounded).names.lookup ("ten" : Str) = some NameKind.local := by decide +kernel
theorem v_prounded_4 : (defScope s_prounded).names.lookup ("size" : Str) = some NameKind.local := by decide +kernel
theorem g_prounded_RULES (L a : Addr) (cd : Value) : (PyProof.Rows.envOfC "rounded" (defScope s_prounded) L a cd).kindOf ("RULES" : Str) = some NameKind.globalImplicit := rfl
theorem g_prounded_NoRule (L a : Addr) (cd : Value) : (PyProof.Rows.envOfC "rounded" (defScope s_prounded) L a cd).kindOf ("NoRule" : Str) = some NameKind.globalImplicit := rfl
theorem g_prounded_power (L a : Addr) (cd : Value) : (PyProof.Rows.envOfC "rounded" (defScope s_prounded) L a cd).kindOf ("power" : Str) = some NameKind.globalImplicit := rfl
theorem g_prounded_abs (L a : Addr) (cd : Value) : (PyProof.Rows.envOfC "rounded" (defScope s_prounded) L a cd).kindOf ("abs" : Str) = some NameKind.globalImplicit := rfl
theorem g_prounded_one_more (L a : Addr) (cd : Value) : (PyProof.Rows.envOfC "rounded" (defScope s_prounded) L a cd).kindOf ("one_more" : Str) = some NameKind.globalImplicit := rfl
theorem g_prounded_int (L a : Addr) (cd : Value) : (PyProof.Rows.envOfC "rounded" (defScope s_prounded) L a cd).kindOf ("int" : Str) = some NameKind.globalImplicit := rfl
theorem ok_prounded {P : Program} {w : World} {K : PySem.W.Frag} {mg : Str → Option Value} {base : Heap} {f : Addr} {fd : FuncData} (F : Fun K "rounded" "rounded" s_prounded f fd) (B : Bn mg) (h_ppower : Fd P w K mg base "power" 2 ["base", "many"] [] f_ppower) (h_pone_more : Fd P w K mg base "one_more" 2 ["size", "rest", "ten", "rule", "below"] [] f_pone_more)  (xcl1_NoRule_rule : Cl1 P w K mg base "NoRule" "rule") (c_RULES : Cst K mg "RULES" (.tup [(.str "cut"), (.str "up"), (.str "half"), (.str "even"), (.str "floor"), (.str "ceil")])) :
    FnOk P w K mg base (L2N.CX P w) 4 f fd ["number", "by", "rule"] (spF K mg 3 [] f_prounded) := by
  refine fn_ok F sc_prounded (by decide) (by decide) fun cdv A outer s H E hr => ?_
  have nd := sc_prounded.nd
  have tk : L2N.Takes (cxOf (L2N.CX P w) P w K mg base ["number", "by", "rule", "ten", "size"] "rounded" (defScope s_prounded) f cdv A outer s H E) (fun cls d _ H => E cls d H) := L2N.takes_of rfl rfl rfl rfl
  have pn : PassesOwn (model P w) (cxOf (L2N.CX P w) P w K mg base ["number", "by", "rule", "ten", "size"] "rounded" (defScope s_prounded) f cdv A outer s H E).A (cxOf (L2N.CX P w) P w K mg base ["number", "by", "rule", "ten", "size"] "rounded" (defScope s_prounded) f cdv A outer s H E).env (cxOf (L2N.CX P w) P w K mg base ["number", "by", "rule", "ten", "size"] "rounded" (defScope s_prounded) f cdv A outer s H E).xe := passes_of rfl
  unfold m_prounded
  exact mss_cons (ms_if (mt_cmp op_notInM os_notIn (me_var (i := 2) rfl (.inl v_prounded_2)) (mf_con c_RULES (hg := (g_prounded_RULES _ _ _))) rfl) (mss_one (ms_raise1 xcl1_NoRule_rule rfl hr (by decide) tk (g_prounded_NoRule _ _ _) (me_var (i := 2) rfl (.inl v_prounded_2)))) (mss_nil)) (mss_cons (ms_if (mt_cmp op_ge os_ge (me_var (i := 1) rfl (.inl v_prounded_1)) (me_int) (nomark _)) (mss_one (ms_ret (me_mul (me_var (i := 0) rfl (.inl v_prounded_0)) (me_fz (mf_call h_ppower hr (by decide) tk (ma_cons (me_int) (ma_cons (me_var (i := 1) rfl (.inl v_prounded_1)) (ma_nil))) (lng_cons (lng_cons lng_nil)) (hg := (g_prounded_power _ _ _))))))) (mss_nil)) (mss_cons (ms_set (i := 3) nd rfl (.inl v_prounded_3) (me_fz (mf_call h_ppower hr (by decide) tk (ma_cons (me_int) (ma_cons (me_neg (me_var (i := 1) rfl (.inl v_prounded_1))) (ma_nil))) (lng_cons (lng_cons lng_nil)) (hg := (g_prounded_power _ _ _))))) (mss_cons (ms_set (i := 4) nd rfl (.inl v_prounded_4) (me_div (mb_abs B.abs (ma_cons (me_var (i := 0) rfl (.inl v_prounded_0)) (ma_nil)) (hg := (g_prounded_abs _ _ _))) (me_var (i := 3) rfl (.inl v_prounded_3)))) (mss_cons (ms_set (i := 4) nd rfl (.inl v_prounded_4) (me_add (me_var (i := 4) rfl (.inl v_prounded_4)) (mb_int B.int (ma_cons (me_fz (mf_call h_pone_more hr (by decide) tk (ma_cons (me_var (i := 4) rfl (.inl v_prounded_4)) (ma_cons (me_mod (mb_abs B.abs (ma_cons (me_var (i := 0) rfl (.inl v_prounded_0)) (ma_nil)) (hg := (g_prounded_abs _ _ _))) (me_var (i := 3) rfl (.inl v_prounded_3))) (ma_cons (me_var (i := 3) rfl (.inl v_prounded_3)) (ma_cons (me_var (i := 2) rfl (.inl v_prounded_2)) (ma_cons (me_cmp op_lt os_lt (me_var (i := 0) rfl (.inl v_prounded_0)) (me_int) (nomark _)) (ma_nil)))))) (lng_cons (lng_cons (lng_cons (lng_cons (lng_cons lng_nil))))) (hg := (g_prounded_one_more _ _ _)))) (ma_nil)) (hg := (g_prounded_int _ _ _))))) (mss_cons (ms_if (mt_cmp op_lt os_lt (me_var (i := 0) rfl (.inl v_prounded_0)) (me_int) (nomark _)) (mss_one (ms_ret (me_neg (me_var (i := 4) rfl (.inl v_prounded_4))))) (mss_nil)) (mss_one (ms_ret (me_var (i := 4) rfl (.inl v_prounded_4)))))))))

abbrev s_prounding : Stmt := top 33
theorem sc_prounding : FnScope ["number", "by", "rule", "found", "size", "rest", "first", "others"] ["number", "by", "rule"] (defScope s_prounding) := ⟨rfl, rfl, rfl, by decide +kernel, rfl, by decide +kernel, by decide +kernel⟩
theorem v_prounding_0 : (defScope s_prounding).names.lookup ("number" : Str) = some NameKind.local := by decide +kernel
theorem v_prounding_1 : (defScope s_prounding).names.lookup ("by" : Str) = some NameKind.local := by decide +kernel
theorem v_prounding_2 : (defScope s_prounding).names.lookup ("rule" : Str) = some NameKind.local := by decide +kernel
theorem v_prounding_3 : (defScope s_prounding).names.lookup ("found" : Str) = some NameKind.local := by decide +kernel
theorem v_prounding_4 : (defScope s_prounding).names.lookup ("size" : Str) = some NameKind.local := by decide +kernel
theorem v_prounding_5 : (defScope s_prounding).names.lookup ("rest" : Str) = some NameKind.local := by decide +kernel
theorem v_prounding_6 : (defScope s_prounding).names.lookup ("first" : Str) = some NameKind.local := by decide +kernel
theorem v_prounding_7 : (defScope s_prounding).names.lookup ("others" : Str) = some NameKind.local := by decide +kernel
theorem g_prounding_RULES (L a : Addr) (cd : Value) : (PyProof.Rows.envOfC "rounding" (defScope s_prounding) L a cd).kindOf ("RULES" : Str) = some NameKind.globalImplicit := rfl
theorem g_prounding_NoRule (L a : Addr) (cd : Value) : (PyProof.Rows.envOfC "rounding" (defScope s_prounding) L a cd).kindOf ("NoRule" : Str) = some NameKind.globalImplicit := rfl
theorem g_prounding_MOST_FIGURES (L a : Addr) (cd : Value) : (PyProof.Rows.envOfC "rounding" (defScope s_prounding) L a cd).kindOf ("MOST_FIGURES" : Str) = some NameKind.globalImplicit := rfl
theorem g_prounding_TooLong (L a : Addr) (cd : Value) : (PyProof.Rows.envOfC "rounding" (defScope s_prounding) L a cd).kindOf ("TooLong" : Str) = some NameKind.globalImplicit := rfl
theorem g_prounding_BOUND (L a : Addr) (cd : Value) : (PyProof.Rows.envOfC "rounding" (defScope s_prounding) L a cd).kindOf ("BOUND" : Str) = some NameKind.globalImplicit := rfl
theorem g_prounding_NoFit (L a : Addr) (cd : Value) : (PyProof.Rows.envOfC "rounding" (defScope s_prounding) L a cd).kindOf ("NoFit" : Str) = some NameKind.globalImplicit := rfl
theorem g_prounding_rounded (L a : Addr) (cd : Value) : (PyProof.Rows.envOfC "rounding" (defScope s_prounding) L a cd).kindOf ("rounded" : Str) = some NameKind.globalImplicit := rfl
theorem g_prounding_power (L a : Addr) (cd : Value) : (PyProof.Rows.envOfC "rounding" (defScope s_prounding) L a cd).kindOf ("power" : Str) = some NameKind.globalImplicit := rfl
theorem g_prounding_abs (L a : Addr) (cd : Value) : (PyProof.Rows.envOfC "rounding" (defScope s_prounding) L a cd).kindOf ("abs" : Str) = some NameKind.globalImplicit := rfl
theorem g_prounding_divmod (L a : Addr) (cd : Value) : (PyProof.Rows.envOfC "rounding" (defScope s_prounding) L a cd).kindOf ("divmod" : Str) = some NameKind.globalImplicit := rfl
theorem ok_prounding {P : Program} {w : World} {K : PySem.W.Frag} {mg : Str → Option Value} {base : Heap} {f : Addr} {fd : FuncData} (F : Fun K "rounding" "rounding" s_prounding f fd) (B : Bn mg) (h_prounded : Fd P w K mg base "rounded" 4 ["number", "by", "rule"] [] f_prounded) (h_ppower : Fd P w K mg base "power" 2 ["base", "many"] [] f_ppower)  (xcl1_NoRule_rule : Cl1 P w K mg base "NoRule" "rule") (xcl1_TooLong_number : Cl1 P w K mg base "TooLong" "number") (xcl1_NoFit_number : Cl1 P w K mg base "NoFit" "number") (c_RULES : Cst K mg "RULES" (.tup [(.str "cut"), (.str "up"), (.str "half"), (.str "even"), (.str "floor"), (.str "ceil")])) (c_MOST_FIGURES : Cst K mg "MOST_FIGURES" (.int 12)) (c_BOUND : Cst K mg "BOUND" (.int 1000000000000)) :
    FnOk P w K mg base (L2N.CX P w) 6 f fd ["number", "by", "rule"] (spF K mg 3 [] f_prounding) := by
  refine fn_ok F sc_prounding (by decide) (by decide) fun cdv A outer s H E hr => ?_
  have nd := sc_prounding.nd
  have tk : L2N.Takes (cxOf (L2N.CX P w) P w K mg base ["number", "by", "rule", "found", "size", "rest", "first", "others"] "rounding" (defScope s_prounding) f cdv A outer s H E) (fun cls d _ H => E cls d H) := L2N.takes_of rfl rfl rfl rfl
  have pn : PassesOwn (model P w) (cxOf (L2N.CX P w) P w K mg base ["number", "by", "rule", "found", "size", "rest", "first", "others"] "rounding" (defScope s_prounding) f cdv A outer s H E).A (cxOf (L2N.CX P w) P w K mg base ["number", "by", "rule", "found", "size", "rest", "first", "others"] "rounding" (defScope s_prounding) f cdv A outer s H E).env (cxOf (L2N.CX P w) P w K mg base ["number", "by", "rule", "found", "size", "rest", "first", "others"] "rounding" (defScope s_prounding) f cdv A outer s H E).xe := passes_of rfl
  unfold m_prounding
  exact mss_cons (ms_if (mt_cmp op_notInM os_notIn (me_var (i := 2) rfl (.inl v_prounding_2)) (mf_con c_RULES (hg := (g_prounding_RULES _ _ _))) rfl) (mss_one (ms_raise1 xcl1_NoRule_rule rfl hr (by decide) tk (g_prounding_NoRule _ _ _) (me_var (i := 2) rfl (.inl v_prounding_2)))) (mss_nil)) (mss_cons (ms_if (mt_not (mt_chain op_le os_le op_le os_le (me_int) (me_var (i := 1) rfl (.inl v_prounding_1)) (mf_con c_MOST_FIGURES (hg := (g_prounding_MOST_FIGURES _ _ _))))) (mss_one (ms_raise1 xcl1_TooLong_number rfl hr (by decide) tk (g_prounding_TooLong _ _ _) (me_var (i := 1) rfl (.inl v_prounding_1)))) (mss_nil)) (mss_cons (ms_if (mt_not (mt_chain op_lt os_lt op_lt os_lt (me_sub (me_int) (mf_con c_BOUND (hg := (g_prounding_BOUND _ _ _)))) (me_var (i := 0) rfl (.inl v_prounding_0)) (mf_con c_BOUND (hg := (g_prounding_BOUND _ _ _))))) (mss_one (ms_raise1 xcl1_NoFit_number rfl hr (by decide) tk (g_prounding_NoFit _ _ _) (me_var (i := 0) rfl (.inl v_prounding_0)))) (mss_nil)) (mss_cons (ms_set (i := 3) nd rfl (.inl v_prounding_3) (me_fz (mf_call h_prounded hr (by decide) tk (ma_cons (me_var (i := 0) rfl (.inl v_prounding_0)) (ma_cons (me_sub (me_int) (me_var (i := 1) rfl (.inl v_prounding_1))) (ma_cons (me_var (i := 2) rfl (.inl v_prounding_2)) (ma_nil)))) (lng_cons (lng_cons (lng_cons lng_nil))) (hg := (g_prounding_rounded _ _ _))))) (mss_cons (ms_asg (mb_divW B.divmod (ma_cons (mb_abs B.abs (ma_cons (me_var (i := 0) rfl (.inl v_prounding_0)) (ma_nil)) (hg := (g_prounding_abs _ _ _))) (ma_cons (me_fz (mf_call h_ppower hr (by decide) tk (ma_cons (me_int) (ma_cons (me_var (i := 1) rfl (.inl v_prounding_1)) (ma_nil))) (lng_cons (lng_cons lng_nil)) (hg := (g_prounding_power _ _ _)))) (ma_nil))) (hg := (g_prounding_divmod _ _ _))) (mg_tup rfl (mgs_cons (mg_name (i := 4) nd rfl (.inl v_prounding_4)) (mgs_cons (mg_name (i := 5) nd rfl (.inl v_prounding_5)) (mgs_nil))))) (mss_cons (ms_asg (mb_divW B.divmod (ma_cons (me_var (i := 5) rfl (.inl v_prounding_5)) (ma_cons (me_fz (mf_call h_ppower hr (by decide) tk (ma_cons (me_int) (ma_cons (me_sub (me_var (i := 1) rfl (.inl v_prounding_1)) (me_int)) (ma_nil))) (lng_cons (lng_cons lng_nil)) (hg := (g_prounding_power _ _ _)))) (ma_nil))) (hg := (g_prounding_divmod _ _ _))) (mg_tup rfl (mgs_cons (mg_name (i := 6) nd rfl (.inl v_prounding_6)) (mgs_cons (mg_name (i := 7) nd rfl (.inl v_prounding_7)) (mgs_nil))))) (mss_one (ms_ret (me_tup (ma_cons (me_var (i := 4) rfl (.inl v_prounding_4)) (ma_cons (me_var (i := 6) rfl (.inl v_prounding_6)) (ma_cons (me_cmp op_gt os_gt (me_var (i := 7) rfl (.inl v_prounding_7)) (me_int) (nomark _)) (ma_cons (me_cmp (op_eqM hr.units) os_eq (me_mod (me_var (i := 4) rfl (.inl v_prounding_4)) (me_int)) (me_int) (nomark _)) (ma_cons (me_cmp op_lt os_lt (me_var (i := 0) rfl (.inl v_prounding_0)) (me_int) (nomark _)) (ma_cons (me_cmp (op_eqM hr.units) os_eq (mb_abs B.abs (ma_cons (me_var (i := 3) rfl (.inl v_prounding_3)) (ma_nil)) (hg := (g_prounding_abs _ _ _))) (me_add (me_var (i := 4) rfl (.inl v_prounding_4)) (me_int)) (nomark _)) (ma_cons (me_var (i := 3) rfl (.inl v_prounding_3)) (ma_nil))))))))))))))))

abbrev s_prounding_holds : Stmt := top 38
theorem sc_prounding_holds : FnScope ["number", "by", "rule", "paper"] ["number", "by", "rule", "paper"] (defScope s_prounding_holds) := ⟨rfl, rfl, rfl, by decide +kernel, rfl, by decide +kernel, by decide +kernel⟩
theorem v_prounding_holds_0 : (defScope s_prounding_holds).names.lookup ("number" : Str) = some NameKind.local := by decide +kernel
theorem v_prounding_holds_1 : (defScope s_prounding_holds).names.lookup ("by" : Str) = some NameKind.local := by decide +kernel
theorem v_prounding_holds_2 : (defScope s_prounding_holds).names.lookup ("rule" : Str) = some NameKind.local := by decide +kernel
theorem v_prounding_holds_3 : (defScope s_prounding_holds).names.lookup ("paper" : Str) = some NameKind.local := by decide +kernel
theorem g_prounding_holds_rounding (L a : Addr) (cd : Value) : (PyProof.Rows.envOfC "rounding_holds" (defScope s_prounding_holds) L a cd).kindOf ("rounding" : Str) = some NameKind.globalImplicit := rfl
theorem g_prounding_holds_is_just (L a : Addr) (cd : Value) : (PyProof.Rows.envOfC "rounding_holds" (defScope s_prounding_holds) L a cd).kindOf ("is_just" : Str) = some NameKind.globalImplicit := rfl
theorem ok_prounding_holds {P : Program} {w : World} {K : PySem.W.Frag} {mg : Str → Option Value} {base : Heap} {f : Addr} {fd : FuncData} (F : Fun K "rounding_holds" "rounding_holds" s_prounding_holds f fd) (B : Bn mg) (h_pis_just : Fd P w K mg base "is_just" 10 ["thing", "due"] [] f_pis_just) (h_prounding : Fd P w K mg base "rounding" 6 ["number", "by", "rule"] [] f_prounding)    :
    FnOk P w K mg base (L2N.CX P w) 12 f fd ["number", "by", "rule", "paper"] (spF K mg 4 [] f_prounding_holds) := by
  refine fn_ok F sc_prounding_holds (by decide) (by decide) fun cdv A outer s H E hr => ?_
  have nd := sc_prounding_holds.nd
  have tk : L2N.Takes (cxOf (L2N.CX P w) P w K mg base ["number", "by", "rule", "paper"] "rounding_holds" (defScope s_prounding_holds) f cdv A outer s H E) (fun cls d _ H => E cls d H) := L2N.takes_of rfl rfl rfl rfl
  have pn : PassesOwn (model P w) (cxOf (L2N.CX P w) P w K mg base ["number", "by", "rule", "paper"] "rounding_holds" (defScope s_prounding_holds) f cdv A outer s H E).A (cxOf (L2N.CX P w) P w K mg base ["number", "by", "rule", "paper"] "rounding_holds" (defScope s_prounding_holds) f cdv A outer s H E).env (cxOf (L2N.CX P w) P w K mg base ["number", "by", "rule", "paper"] "rounding_holds" (defScope s_prounding_holds) f cdv A outer s H E).xe := passes_of rfl
  unfold m_prounding_holds
  exact mss_one (ms_ret (me_fz (mf_call h_pis_just hr (by decide) tk (ma_cons (me_var (i := 3) rfl (.inl v_prounding_holds_3)) (ma_cons (me_fz (mf_call h_prounding hr (by decide) tk (ma_cons (me_var (i := 0) rfl (.inl v_prounding_holds_0)) (ma_cons (me_var (i := 1) rfl (.inl v_prounding_holds_1)) (ma_cons (me_var (i := 2) rfl (.inl v_prounding_holds_2)) (ma_nil)))) (lng_cons (lng_cons (lng_cons lng_nil))) (hg := (g_prounding_holds_rounding _ _ _)))) (ma_nil))) (lng_cons (lng_cons lng_nil)) (hg := (g_prounding_holds_is_just _ _ _)))))

abbrev s_lrefused4 : Stmt := top 45
theorem sc_lrefused4 : FnScope ["_law_which", "_law_given", "_law_found", "_law_paper", "_law_e", "_law_part"] ["_law_which", "_law_given"] (defScope s_lrefused4) := ⟨rfl, rfl, rfl, by decide +kernel, rfl, by decide +kernel, by decide +kernel⟩
theorem v_lrefused4_0 : (defScope s_lrefused4).names.lookup ("_law_which" : Str) = some NameKind.local := by decide +kernel
theorem v_lrefused4_1 : (defScope s_lrefused4).names.lookup ("_law_given" : Str) = some NameKind.local := by decide +kernel
theorem v_lrefused4_2 : (defScope s_lrefused4).names.lookup ("_law_found" : Str) = some NameKind.local := by decide +kernel
theorem v_lrefused4_3 : (defScope s_lrefused4).names.lookup ("_law_paper" : Str) = some NameKind.local := by decide +kernel
theorem v_lrefused4_4 : (defScope s_lrefused4).names.lookup ("_law_e" : Str) = some NameKind.local := by decide +kernel
theorem g_lrefused4_sum (L a : Addr) (cd : Value) : (PyProof.Rows.envOfC "_law_refused" (defScope s_lrefused4) L a cd).kindOf ("sum" : Str) = some NameKind.globalImplicit := rfl
theorem g_lrefused4_sixes (L a : Addr) (cd : Value) : (PyProof.Rows.envOfC "_law_refused" (defScope s_lrefused4) L a cd).kindOf ("sixes" : Str) = some NameKind.globalImplicit := rfl
theorem g_lrefused4_sixes_hold (L a : Addr) (cd : Value) : (PyProof.Rows.envOfC "_law_refused" (defScope s_lrefused4) L a cd).kindOf ("sixes_hold" : Str) = some NameKind.globalImplicit := rfl
theorem g_lrefused4_tries (L a : Addr) (cd : Value) : (PyProof.Rows.envOfC "_law_refused" (defScope s_lrefused4) L a cd).kindOf ("tries" : Str) = some NameKind.globalImplicit := rfl
theorem g_lrefused4_tries_hold (L a : Addr) (cd : Value) : (PyProof.Rows.envOfC "_law_refused" (defScope s_lrefused4) L a cd).kindOf ("tries_hold" : Str) = some NameKind.globalImplicit := rfl
theorem g_lrefused4_rounding (L a : Addr) (cd : Value) : (PyProof.Rows.envOfC "_law_refused" (defScope s_lrefused4) L a cd).kindOf ("rounding" : Str) = some NameKind.globalImplicit := rfl
theorem g_lrefused4_rounding_holds (L a : Addr) (cd : Value) : (PyProof.Rows.envOfC "_law_refused" (defScope s_lrefused4) L a cd).kindOf ("rounding_holds" : Str) = some NameKind.globalImplicit := rfl
theorem g_lrefused4_TooLong (L a : Addr) (cd : Value) : (PyProof.Rows.envOfC "_law_refused" (defScope s_lrefused4) L a cd).kindOf ("TooLong" : Str) = some NameKind.globalImplicit := rfl
theorem g_lrefused4_NoFit (L a : Addr) (cd : Value) : (PyProof.Rows.envOfC "_law_refused" (defScope s_lrefused4) L a cd).kindOf ("NoFit" : Str) = some NameKind.globalImplicit := rfl
theorem g_lrefused4_law_sorts (L a : Addr) (cd : Value) : (PyProof.Rows.envOfC "_law_refused" (defScope s_lrefused4) L a cd).kindOf ("_law_sorts" : Str) = some NameKind.globalImplicit := rfl
theorem g_lrefused4_Nought (L a : Addr) (cd : Value) : (PyProof.Rows.envOfC "_law_refused" (defScope s_lrefused4) L a cd).kindOf ("Nought" : Str) = some NameKind.globalImplicit := rfl
theorem g_lrefused4_NoRule (L a : Addr) (cd : Value) : (PyProof.Rows.envOfC "_law_refused" (defScope s_lrefused4) L a cd).kindOf ("NoRule" : Str) = some NameKind.globalImplicit := rfl
theorem ok_lrefused4 {P : Program} {w : World} {K : PySem.W.Frag} {mg : Str → Option Value} {base : Heap} {f : Addr} {fd : FuncData} (F : Fun K "_law_refused" "_law_refused" s_lrefused4 f fd) (B : Bn mg) (h_psixes : Fd P w K mg base "sixes" 6 ["figures", "one", "other"] [] f_psixes) (h_psixes_hold : Fd P w K mg base "sixes_hold" 12 ["figures", "one", "other", "paper"] [] f_psixes_hold) (h_ptries : Fd P w K mg base "tries" 4 ["one", "other"] [] f_ptries) (h_ptries_hold : Fd P w K mg base "tries_hold" 12 ["one", "other", "paper"] [] f_ptries_hold) (h_prounding : Fd P w K mg base "rounding" 6 ["number", "by", "rule"] [] f_prounding) (h_prounding_holds : Fd P w K mg base "rounding_holds" 12 ["number", "by", "rule", "paper"] [] f_prounding_holds) (h_lsorts : FdE P w K mg base "_law_sorts" 2 "_law_e" ["NoFit", "NoRule", "Nought", "TooLong"] f_lsorts)  (xext_TooLong_NoFit_False : ExT K mg "TooLong" "NoFit" false) (xext_NoFit_NoFit_True : ExT K mg "NoFit" "NoFit" true) (xext_TooLong_NoRule_False : ExT K mg "TooLong" "NoRule" false) (xext_NoFit_NoRule_False : ExT K mg "NoFit" "NoRule" false) (xext_TooLong_Nought_False : ExT K mg "TooLong" "Nought" false) (xext_NoFit_Nought_False : ExT K mg "NoFit" "Nought" false) (xext_TooLong_TooLong_True : ExT K mg "TooLong" "TooLong" true) (xext_NoFit_TooLong_False : ExT K mg "NoFit" "TooLong" false) (xcls_TooLong : ∃ D, mg "TooLong" = some (.ref D)) (xcls_NoFit : ∃ D, mg "NoFit" = some (.ref D)) (xxcf_NoFit_number : XcF K mg ["number"] "NoFit") (xxcf_TooLong_number : XcF K mg ["number"] "TooLong") (xext_Nought_NoRule_False : ExT K mg "Nought" "NoRule" false) (xext_Nought_Nought_True : ExT K mg "Nought" "Nought" true) (xcls_Nought : ∃ D, mg "Nought" = some (.ref D)) (xxcf_Nought_ : XcF K mg [] "Nought") (xext_NoRule_NoRule_True : ExT K mg "NoRule" "NoRule" true) (xcls_NoRule : ∃ D, mg "NoRule" = some (.ref D)) (xxcf_NoRule_rule : XcF K mg ["rule"] "NoRule")  :
    FnOk P w K mg base (L2N.CX P w) 14 f fd ["_law_which", "_law_given"] (spF K mg 2 [] f_lrefused4) := by
  refine fn_ok F sc_lrefused4 (by decide) (by decide) fun cdv A outer s H E hr => ?_
  have nd := sc_lrefused4.nd
  have tk : L2N.Takes (cxOf (L2N.CX P w) P w K mg base ["_law_which", "_law_given", "_law_found", "_law_paper", "_law_e", "_law_part"] "_law_refused" (defScope s_lrefused4) f cdv A outer s H E) (fun cls d _ H => E cls d H) := L2N.takes_of rfl rfl rfl rfl
  have pn : PassesOwn (model P w) (cxOf (L2N.CX P w) P w K mg base ["_law_which", "_law_given", "_law_found", "_law_paper", "_law_e", "_law_part"] "_law_refused" (defScope s_lrefused4) f cdv A outer s H E).A (cxOf (L2N.CX P w) P w K mg base ["_law_which", "_law_given", "_law_found", "_law_paper", "_law_e", "_law_part"] "_law_refused" (defScope s_lrefused4) f cdv A outer s H E).env (cxOf (L2N.CX P w) P w K mg base ["_law_which", "_law_given", "_law_found", "_law_paper", "_law_e", "_law_part"] "_law_refused" (defScope s_lrefused4) f cdv A outer s H E).xe := passes_of rfl
  unfold m_lrefused4
  exact mss_cons (ms_set (i := 2) nd rfl (.inl v_lrefused4_2) (me_non)) (mss_cons (ms_set (i := 3) nd rfl (.inl v_lrefused4_3) (me_ix (me_tup (ma_cons (me_non) (ma_cons (me_int) (ma_cons (me_tup (ma_nil)) (ma_cons (me_str) (ma_cons (me_tup (ma_cons (me_int) (ma_cons (me_tup (ma_cons (me_int) (ma_nil))) (ma_nil)))) (ma_nil))))))) (me_mod (mb_sum rfl B.sum (ma_cons (me_fz (mo_lc (own := [("_law_part", 5)]) (g := .nm 5) rfl nd (mi_val (me_var (i := 1) rfl (.inl v_lrefused4_1))) (blkOk_at (N' := ["_law_which", "_law_given", "_law_found", "_law_paper", "_law_e", "_law_part"]) (sc' := defScope s_lrefused4) rfl rfl (by decide +kernel)) (fun _ _ _ _ _ => pg_name (i := 5) nd rfl (Or.inl rfl)) (fun _ _ _ _ _ => mts_nil) (fun _ _ _ _ _ => mb_len B.len (ma_cons (mb_strA B.str (ma_cons (me_var (i := 5) rfl (.inl rfl)) (ma_nil)) (hg := rfl)) (ma_nil)) (hg := rfl)) (hbs := hbs_of rfl))) (ma_nil)) (hg := (g_lrefused4_sum _ _ _))) (me_int)))) (mss_cons (ms_tryT (i := 4) rfl rfl nd rfl (by first | rfl | decide +kernel) tk (fun W pl xe tk pn => mss_one (ms_if (mt_cmp (op_eqM hr.units) os_eq (me_var (i := 0) rfl (.inl v_lrefused4_0)) (me_int) (nomark _)) (mss_one (ms_expr (me_fz (mf_call h_psixes hr (by decide) tk (ma_cons (me_ix (me_var (i := 1) rfl (.inl v_lrefused4_1)) (me_int)) (ma_cons (me_ix (me_var (i := 1) rfl (.inl v_lrefused4_1)) (me_int)) (ma_cons (me_ix (me_var (i := 1) rfl (.inl v_lrefused4_1)) (me_int)) (ma_nil)))) (lng_cons (lng_cons (lng_cons lng_nil))) (hg := (g_lrefused4_sixes _ _ _)))))) (mss_one (ms_if (mt_cmp (op_eqM hr.units) os_eq (me_var (i := 0) rfl (.inl v_lrefused4_0)) (me_int) (nomark _)) (mss_one (ms_expr (me_fz (mf_call h_psixes_hold hr (by decide) tk (ma_cons (me_ix (me_var (i := 1) rfl (.inl v_lrefused4_1)) (me_int)) (ma_cons (me_ix (me_var (i := 1) rfl (.inl v_lrefused4_1)) (me_int)) (ma_cons (me_ix (me_var (i := 1) rfl (.inl v_lrefused4_1)) (me_int)) (ma_cons (me_var (i := 3) rfl (.inl v_lrefused4_3)) (ma_nil))))) (lng_cons (lng_cons (lng_cons (lng_cons lng_nil)))) (hg := (g_lrefused4_sixes_hold _ _ _)))))) (mss_one (ms_if (mt_cmp (op_eqM hr.units) os_eq (me_var (i := 0) rfl (.inl v_lrefused4_0)) (me_int) (nomark _)) (mss_one (ms_expr (me_fz (mf_call h_ptries hr (by decide) tk (ma_cons (me_ix (me_var (i := 1) rfl (.inl v_lrefused4_1)) (me_int)) (ma_cons (me_ix (me_var (i := 1) rfl (.inl v_lrefused4_1)) (me_int)) (ma_nil))) (lng_cons (lng_cons lng_nil)) (hg := (g_lrefused4_tries _ _ _)))))) (mss_one (ms_if (mt_cmp (op_eqM hr.units) os_eq (me_var (i := 0) rfl (.inl v_lrefused4_0)) (me_int) (nomark _)) (mss_one (ms_expr (me_fz (mf_call h_ptries_hold hr (by decide) tk (ma_cons (me_ix (me_var (i := 1) rfl (.inl v_lrefused4_1)) (me_int)) (ma_cons (me_ix (me_var (i := 1) rfl (.inl v_lrefused4_1)) (me_int)) (ma_cons (me_var (i := 3) rfl (.inl v_lrefused4_3)) (ma_nil)))) (lng_cons (lng_cons (lng_cons lng_nil))) (hg := (g_lrefused4_tries_hold _ _ _)))))) (mss_one (ms_if (mt_cmp (op_eqM hr.units) os_eq (me_var (i := 0) rfl (.inl v_lrefused4_0)) (me_int) (nomark _)) (mss_one (ms_expr (me_fz (mf_call h_prounding hr (by decide) tk (ma_cons (me_ix (me_var (i := 1) rfl (.inl v_lrefused4_1)) (me_int)) (ma_cons (me_ix (me_var (i := 1) rfl (.inl v_lrefused4_1)) (me_int)) (ma_cons (me_ix (me_var (i := 1) rfl (.inl v_lrefused4_1)) (me_int)) (ma_nil)))) (lng_cons (lng_cons (lng_cons lng_nil))) (hg := (g_lrefused4_rounding _ _ _)))))) (mss_one (ms_expr (me_fz (mf_call h_prounding_holds hr (by decide) tk (ma_cons (me_ix (me_var (i := 1) rfl (.inl v_lrefused4_1)) (me_int)) (ma_cons (me_ix (me_var (i := 1) rfl (.inl v_lrefused4_1)) (me_int)) (ma_cons (me_ix (me_var (i := 1) rfl (.inl v_lrefused4_1)) (me_int)) (ma_cons (me_var (i := 3) rfl (.inl v_lrefused4_3)) (ma_nil))))) (lng_cons (lng_cons (lng_cons (lng_cons lng_nil)))) (hg := (g_lrefused4_rounding_holds _ _ _)))))))))))))))) (by exact (.two (g_lrefused4_TooLong _ _ _) (g_lrefused4_NoFit _ _ _) (fa_cons (ext2 xext_TooLong_NoFit_False xext_NoFit_NoFit_True) (fa_cons (ext2 xext_TooLong_NoRule_False xext_NoFit_NoRule_False) (fa_cons (ext2 xext_TooLong_Nought_False xext_NoFit_Nought_False) (fa_cons (ext2 xext_TooLong_TooLong_True xext_NoFit_TooLong_False) (fa_nil))))) xcls_TooLong xcls_NoFit (fun a oe C d pl e hC hT hz hv => mss_one (ms_set (i := 2) nd rfl (.inl v_lrefused4_2) (me_tup (ma_cons (me_callE h_lsorts hr (by decide) hC hT (by decide) hz hv rfl (.inl v_lrefused4_4) (g_lrefused4_law_sorts _ _ _)) (ma_cons (mx_f (xc_at (fs := ["number"]) (ts := ["NoFit", "TooLong"]) (fa_cons xxcf_NoFit_number (fa_cons xxcf_TooLong_number (fa_nil))) (by decide) hC hT) (by decide) hz hv rfl (.inl v_lrefused4_4)) (ma_nil)))))) (by decide) (by decide) (.cons (g_lrefused4_Nought _ _ _) (fa_cons xext_Nought_NoRule_False (fa_cons xext_Nought_Nought_True (fa_nil))) xcls_Nought (fun a oe C d pl e hC hT hz hv => mss_one (ms_set (i := 2) nd rfl (.inl v_lrefused4_2) (me_tup (ma_cons (me_callE h_lsorts hr (by decide) hC hT (by decide) hz hv rfl (.inl v_lrefused4_4) (g_lrefused4_law_sorts _ _ _)) (ma_cons (me_int) (ma_nil)))))) (by decide) (.cons (g_lrefused4_NoRule _ _ _) (fa_cons xext_NoRule_NoRule_True (fa_nil)) xcls_NoRule (fun a oe C d pl e hC hT hz hv => mss_one (ms_set (i := 2) nd rfl (.inl v_lrefused4_2) (me_tup (ma_cons (me_callE h_lsorts hr (by decide) hC hT (by decide) hz hv rfl (.inl v_lrefused4_4) (g_lrefused4_law_sorts _ _ _)) (ma_cons (mx_f (xc_at (fs := ["rule"]) (ts := ["NoRule"]) (fa_cons xxcf_NoRule_rule (fa_nil)) (by decide) hC hT) (by decide) hz hv rfl (.inl v_lrefused4_4)) (ma_nil)))))) (by decide) .nil))))) (mss_one (ms_ret (me_var (i := 2) rfl (.inl v_lrefused4_2))))))

abbrev s_lrounding_refused : Stmt := top 49
theorem sc_lrounding_refused : FnScope ["_law_amiss", "_law_ways", "_law_number", "_law_by", "_law_rule", "_law_far", "_law_due", "_law_given"] ["_law_amiss", "_law_ways", "_law_number", "_law_by", "_law_rule", "_law_far"] (defScope s_lrounding_refused) := ⟨rfl, rfl, rfl, by decide +kernel, rfl, by decide +kernel, by decide +kernel⟩
theorem v_lrounding_refused_0 : (defScope s_lrounding_refused).names.lookup ("_law_amiss" : Str) = some NameKind.local := by decide +kernel
theorem v_lrounding_refused_1 : (defScope s_lrounding_refused).names.lookup ("_law_ways" : Str) = some NameKind.local := by decide +kernel
theorem v_lrounding_refused_2 : (defScope s_lrounding_refused).names.lookup ("_law_number" : Str) = some NameKind.local := by decide +kernel
theorem v_lrounding_refused_3 : (defScope s_lrounding_refused).names.lookup ("_law_by" : Str) = some NameKind.local := by decide +kernel
theorem v_lrounding_refused_4 : (defScope s_lrounding_refused).names.lookup ("_law_rule" : Str) = some NameKind.local := by decide +kernel
theorem v_lrounding_refused_5 : (defScope s_lrounding_refused).names.lookup ("_law_far" : Str) = some NameKind.local := by decide +kernel
theorem v_lrounding_refused_6 : (defScope s_lrounding_refused).names.lookup ("_law_due" : Str) = some NameKind.local := by decide +kernel
theorem v_lrounding_refused_7 : (defScope s_lrounding_refused).names.lookup ("_law_given" : Str) = some NameKind.local := by decide +kernel
theorem g_lrounding_refused_law_refused (L a : Addr) (cd : Value) : (PyProof.Rows.envOfC "_law_rounding_refused" (defScope s_lrounding_refused) L a cd).kindOf ("_law_refused" : Str) = some NameKind.globalImplicit := rfl
theorem ok_lrounding_refused {P : Program} {w : World} {K : PySem.W.Frag} {mg : Str → Option Value} {base : Heap} {f : Addr} {fd : FuncData} (F : Fun K "_law_rounding_refused" "_law_rounding_refused" s_lrounding_refused f fd) (B : Bn mg) (h_lrefused4 : Fd P w K mg base "_law_refused" 14 ["_law_which", "_law_given"] [] f_lrefused4)    :
    FnOk P w K mg base (L2N.CX P w) 16 f fd ["_law_amiss", "_law_ways", "_law_number", "_law_by", "_law_rule", "_law_far"] (spF K mg 6 [] f_lrounding_refused) := by
  refine fn_ok F sc_lrounding_refused (by decide) (by decide) fun cdv A outer s H E hr => ?_
  have nd := sc_lrounding_refused.nd
  have tk : L2N.Takes (cxOf (L2N.CX P w) P w K mg base ["_law_amiss", "_law_ways", "_law_number", "_law_by", "_law_rule", "_law_far", "_law_due", "_law_given"] "_law_rounding_refused" (defScope s_lrounding_refused) f cdv A outer s H E) (fun cls d _ H => E cls d H) := L2N.takes_of rfl rfl rfl rfl
  have pn : PassesOwn (model P w) (cxOf (L2N.CX P w) P w K mg base ["_law_amiss", "_law_ways", "_law_number", "_law_by", "_law_rule", "_law_far", "_law_due", "_law_given"] "_law_rounding_refused" (defScope s_lrounding_refused) f cdv A outer s H E).A (cxOf (L2N.CX P w) P w K mg base ["_law_amiss", "_law_ways", "_law_number", "_law_by", "_law_rule", "_law_far", "_law_due", "_law_given"] "_law_rounding_refused" (defScope s_lrounding_refused) f cdv A outer s H E).env (cxOf (L2N.CX P w) P w K mg base ["_law_amiss", "_law_ways", "_law_number", "_law_by", "_law_rule", "_law_far", "_law_due", "_law_given"] "_law_rounding_refused" (defScope s_lrounding_refused) f cdv A outer s H E).xe := passes_of rfl
  unfold m_lrounding_refused
  exact mss_cons (ms_if (mt_cmp (op_eqM hr.units) os_eq (me_mod (me_var (i := 1) rfl (.inl v_lrounding_refused_1)) (me_int)) (me_int) (nomark _)) (mss_one (ms_set (i := 2) nd rfl (.inl v_lrounding_refused_2) (me_sub (me_int) (me_var (i := 2) rfl (.inl v_lrounding_refused_2))))) (mss_nil)) (mss_cons (ms_set (i := 6) nd rfl (.inl v_lrounding_refused_6) (me_non)) (mss_cons (ms_if (mt_cmp (op_eqM hr.units) os_eq (me_mod (me_var (i := 0) rfl (.inl v_lrounding_refused_0)) (me_int)) (me_int) (nomark _)) (mss_cons (ms_set (i := 2) nd rfl (.inl v_lrounding_refused_2) (me_ix (me_lst (ma_cons (me_pow (me_int) (me_int)) (ma_cons (me_sub (me_int) (me_pow (me_int) (me_int))) (ma_cons (me_add (me_pow (me_int) (me_int)) (me_var (i := 5) rfl (.inl v_lrounding_refused_5))) (ma_cons (me_sub (me_sub (me_int) (me_pow (me_int) (me_int))) (me_var (i := 5) rfl (.inl v_lrounding_refused_5))) (ma_nil)))))) (me_mod (me_var (i := 1) rfl (.inl v_lrounding_refused_1)) (me_int)))) (mss_one (ms_set (i := 6) nd rfl (.inl v_lrounding_refused_6) (me_tup (ma_cons (me_str) (ma_cons (me_var (i := 2) rfl (.inl v_lrounding_refused_2)) (ma_nil))))))) (mss_nil)) (mss_cons (ms_if (mt_cmp (op_eqM hr.units) os_eq (me_mod (me_div (me_var (i := 0) rfl (.inl v_lrounding_refused_0)) (me_int)) (me_int)) (me_int) (nomark _)) (mss_cons (ms_set (i := 3) nd rfl (.inl v_lrounding_refused_3) (me_ix (me_lst (ma_cons (me_int) (ma_cons (me_int) (ma_cons (me_neg (me_int)) (ma_cons (me_add (me_int) (me_var (i := 5) rfl (.inl v_lrounding_refused_5))) (ma_nil)))))) (me_mod (me_div (me_var (i := 1) rfl (.inl v_lrounding_refused_1)) (me_int)) (me_int)))) (mss_one (ms_set (i := 6) nd rfl (.inl v_lrounding_refused_6) (me_tup (ma_cons (me_str) (ma_cons (me_var (i := 3) rfl (.inl v_lrounding_refused_3)) (ma_nil))))))) (mss_nil)) (mss_cons (ms_if (mt_cmp (op_eqM hr.units) os_eq (me_mod (me_div (me_var (i := 0) rfl (.inl v_lrounding_refused_0)) (me_int)) (me_int)) (me_int) (nomark _)) (mss_cons (ms_set (i := 4) nd rfl (.inl v_lrounding_refused_4) (me_ix (me_lst (ma_cons (me_add (me_var (i := 4) rfl (.inl v_lrounding_refused_4)) (me_str)) (ma_cons (me_sl (me_var (i := 4) rfl (.inl v_lrounding_refused_4)) (mp_some (me_int)) (mp_none)) (ma_cons (me_str) (ma_cons (me_str) (ma_nil)))))) (me_div (me_var (i := 1) rfl (.inl v_lrounding_refused_1)) (me_int)))) (mss_one (ms_set (i := 6) nd rfl (.inl v_lrounding_refused_6) (me_tup (ma_cons (me_str) (ma_cons (me_var (i := 4) rfl (.inl v_lrounding_refused_4)) (ma_nil))))))) (mss_nil)) (mss_cons (ms_set (i := 7) nd rfl (.inl v_lrounding_refused_7) (me_tup (ma_cons (me_var (i := 2) rfl (.inl v_lrounding_refused_2)) (ma_cons (me_var (i := 3) rfl (.inl v_lrounding_refused_3)) (ma_cons (me_var (i := 4) rfl (.inl v_lrounding_refused_4)) (ma_nil)))))) (mss_one (ms_ret (me_and (me_cmp (op_eqM hr.units) os_eq (me_fz (mf_call h_lrefused4 hr (by decide) tk (ma_cons (me_int) (ma_cons (me_var (i := 7) rfl (.inl v_lrounding_refused_7)) (ma_nil))) (lng_cons (lng_cons lng_nil)) (hg := (g_lrounding_refused_law_refused _ _ _)))) (me_var (i := 6) rfl (.inl v_lrounding_refused_6)) (nomark _)) (me_one (me_cmp (op_eqM hr.units) os_eq (me_fz (mf_call h_lrefused4 hr (by decide) tk (ma_cons (me_int) (ma_cons (me_var (i := 7) rfl (.inl v_lrounding_refused_7)) (ma_nil))) (lng_cons (lng_cons lng_nil)) (hg := (g_lrounding_refused_law_refused _ _ _)))) (me_var (i := 6) rfl (.inl v_lrounding_refused_6)) (nomark _)))))))))))

abbrev s_lcell : Stmt := top 40
theorem sc_lcell : FnScope ["_law_script", "_law_k"] ["_law_script", "_law_k"] (defScope s_lcell) := ⟨rfl, rfl, rfl, by decide +kernel, rfl, by decide +kernel, by decide +kernel⟩
theorem v_lcell_0 : (defScope s_lcell).names.lookup ("_law_script" : Str) = some NameKind.local := by decide +kernel
theorem v_lcell_1 : (defScope s_lcell).names.lookup ("_law_k" : Str) = some NameKind.local := by decide +kernel
theorem g_lcell_len (L a : Addr) (cd : Value) : (PyProof.Rows.envOfC "_law_cell" (defScope s_lcell) L a cd).kindOf ("len" : Str) = some NameKind.globalImplicit := rfl
theorem ok_lcell {P : Program} {w : World} {K : PySem.W.Frag} {mg : Str → Option Value} {base : Heap} {f : Addr} {fd : FuncData} (F : Fun K "_law_cell" "_law_cell" s_lcell f fd) (B : Bn mg)     :
    FnOk P w K mg base (L2N.CX P w) 2 f fd ["_law_script", "_law_k"] (spF K mg 2 [] f_lcell) := by
  refine fn_ok F sc_lcell (by decide) (by decide) fun cdv A outer s H E hr => ?_
  have nd := sc_lcell.nd
  have tk : L2N.Takes (cxOf (L2N.CX P w) P w K mg base ["_law_script", "_law_k"] "_law_cell" (defScope s_lcell) f cdv A outer s H E) (fun cls d _ H => E cls d H) := L2N.takes_of rfl rfl rfl rfl
  have pn : PassesOwn (model P w) (cxOf (L2N.CX P w) P w K mg base ["_law_script", "_law_k"] "_law_cell" (defScope s_lcell) f cdv A outer s H E).A (cxOf (L2N.CX P w) P w K mg base ["_law_script", "_law_k"] "_law_cell" (defScope s_lcell) f cdv A outer s H E).env (cxOf (L2N.CX P w) P w K mg base ["_law_script", "_law_k"] "_law_cell" (defScope s_lcell) f cdv A outer s H E).xe := passes_of rfl
  unfold m_lcell
  exact mss_cons (ms_if (mt_cmp op_lt os_lt (me_var (i := 1) rfl (.inl v_lcell_1)) (mb_len B.len (ma_cons (me_var (i := 0) rfl (.inl v_lcell_0)) (ma_nil)) (hg := (g_lcell_len _ _ _))) (nomark _)) (mss_one (ms_ret (me_ix (me_var (i := 0) rfl (.inl v_lcell_0)) (me_var (i := 1) rfl (.inl v_lcell_1))))) (mss_nil)) (mss_cons (ms_if (mt_cmp (op_eqM hr.units) os_eq (mb_len B.len (ma_cons (me_var (i := 0) rfl (.inl v_lcell_0)) (ma_nil)) (hg := (g_lcell_len _ _ _))) (me_int) (nomark _)) (mss_one (ms_ret (me_mul (me_int) (me_add (me_var (i := 1) rfl (.inl v_lcell_1)) (me_int))))) (mss_nil)) (mss_one (ms_ret (me_add (me_ix (me_var (i := 0) rfl (.inl v_lcell_0)) (me_mod (me_var (i := 1) rfl (.inl v_lcell_1)) (mb_len B.len (ma_cons (me_var (i := 0) rfl (.inl v_lcell_0)) (ma_nil)) (hg := (g_lcell_len _ _ _))))) (me_mul (me_int) (me_var (i := 1) rfl (.inl v_lcell_1)))))))

abbrev s_lpower : Stmt := top 43
theorem sc_lpower : FnScope ["_law_base", "_law_many", "_law_found", "_law_k"] ["_law_base", "_law_many"] (defScope s_lpower) := ⟨rfl, rfl, rfl, by decide +kernel, rfl, by decide +kernel, by decide +kernel⟩
theorem v_lpower_0 : (defScope s_lpower).names.lookup ("_law_base" : Str) = some NameKind.local := by decide +kernel
theorem v_lpower_1 : (defScope s_lpower).names.lookup ("_law_many" : Str) = some NameKind.local := by decide +kernel
theorem v_lpower_2 : (defScope s_lpower).names.lookup ("_law_found" : Str) = some NameKind.local := by decide +kernel
theorem v_lpower_3 : (defScope s_lpower).names.lookup ("_law_k" : Str) = some NameKind.local := by decide +kernel
theorem g_lpower_range (L a : Addr) (cd : Value) : (PyProof.Rows.envOfC "_law_power" (defScope s_lpower) L a cd).kindOf ("range" : Str) = some NameKind.globalImplicit := rfl
theorem ok_lpower {P : Program} {w : World} {K : PySem.W.Frag} {mg : Str → Option Value} {base : Heap} {f : Addr} {fd : FuncData} (F : Fun K "_law_power" "_law_power" s_lpower f fd) (B : Bn mg)     :
    FnOk P w K mg base (L2N.CX P w) 2 f fd ["_law_base", "_law_many"] (spF K mg 2 [] f_lpower) := by
  refine fn_ok F sc_lpower (by decide) (by decide) fun cdv A outer s H E hr => ?_
  have nd := sc_lpower.nd
  have tk : L2N.Takes (cxOf (L2N.CX P w) P w K mg base ["_law_base", "_law_many", "_law_found", "_law_k"] "_law_power" (defScope s_lpower) f cdv A outer s H E) (fun cls d _ H => E cls d H) := L2N.takes_of rfl rfl rfl rfl
  have pn : PassesOwn (model P w) (cxOf (L2N.CX P w) P w K mg base ["_law_base", "_law_many", "_law_found", "_law_k"] "_law_power" (defScope s_lpower) f cdv A outer s H E).A (cxOf (L2N.CX P w) P w K mg base ["_law_base", "_law_many", "_law_found", "_law_k"] "_law_power" (defScope s_lpower) f cdv A outer s H E).env (cxOf (L2N.CX P w) P w K mg base ["_law_base", "_law_many", "_law_found", "_law_k"] "_law_power" (defScope s_lpower) f cdv A outer s H E).xe := passes_of rfl
  unfold m_lpower
  exact mss_cons (ms_set (i := 2) nd rfl (.inl v_lpower_2) (me_int)) (mss_cons (ms_for pn rfl (mi_r1 B.range (ma_cons (me_var (i := 1) rfl (.inl v_lpower_1)) (ma_nil)) (hg := (g_lpower_range _ _ _))) (mg_name (i := 3) nd rfl (.inl v_lpower_3)) (mss_one (ms_set (i := 2) nd rfl (.inl v_lpower_2) (me_mul (me_var (i := 2) rfl (.inl v_lpower_2)) (me_var (i := 0) rfl (.inl v_lpower_0)))))) (mss_one (ms_ret (me_var (i := 2) rfl (.inl v_lpower_2)))))

abbrev s_lbeyond : Stmt := top 46
theorem sc_lbeyond : FnScope ["_law_most", "_law_way", "_law_far"] ["_law_most", "_law_way", "_law_far"] (defScope s_lbeyond) := ⟨rfl, rfl, rfl, by decide +kernel, rfl, by decide +kernel, by decide +kernel⟩
theorem v_lbeyond_0 : (defScope s_lbeyond).names.lookup ("_law_most" : Str) = some NameKind.local := by decide +kernel
theorem v_lbeyond_1 : (defScope s_lbeyond).names.lookup ("_law_way" : Str) = some NameKind.local := by decide +kernel
theorem v_lbeyond_2 : (defScope s_lbeyond).names.lookup ("_law_far" : Str) = some NameKind.local := by decide +kernel
theorem ok_lbeyond {P : Program} {w : World} {K : PySem.W.Frag} {mg : Str → Option Value} {base : Heap} {f : Addr} {fd : FuncData} (F : Fun K "_law_beyond" "_law_beyond" s_lbeyond f fd) (B : Bn mg)     :
    FnOk P w K mg base (L2N.CX P w) 2 f fd ["_law_most", "_law_way", "_law_far"] (spF K mg 3 [] f_lbeyond) := by
  refine fn_ok F sc_lbeyond (by decide) (by decide) fun cdv A outer s H E hr => ?_
  have nd := sc_lbeyond.nd
  have tk : L2N.Takes (cxOf (L2N.CX P w) P w K mg base ["_law_most", "_law_way", "_law_far"] "_law_beyond" (defScope s_lbeyond) f cdv A outer s H E) (fun cls d _ H => E cls d H) := L2N.takes_of rfl rfl rfl rfl
  have pn : PassesOwn (model P w) (cxOf (L2N.CX P w) P w K mg base ["_law_most", "_law_way", "_law_far"] "_law_beyond" (defScope s_lbeyond) f cdv A outer s H E).A (cxOf (L2N.CX P w) P w K mg base ["_law_most", "_law_way", "_law_far"] "_law_beyond" (defScope s_lbeyond) f cdv A outer s H E).env (cxOf (L2N.CX P w) P w K mg base ["_law_most", "_law_way", "_law_far"] "_law_beyond" (defScope s_lbeyond) f cdv A outer s H E).xe := passes_of rfl
  unfold m_lbeyond
  exact mss_one (ms_ret (me_ix (me_lst (ma_cons (me_add (me_var (i := 0) rfl (.inl v_lbeyond_0)) (me_int)) (ma_cons (me_neg (me_int)) (ma_cons (me_add (me_add (me_var (i := 0) rfl (.inl v_lbeyond_0)) (me_int)) (me_var (i := 2) rfl (.inl v_lbeyond_2))) (ma_cons (me_sub (me_neg (me_int)) (me_var (i := 2) rfl (.inl v_lbeyond_2))) (ma_nil)))))) (me_var (i := 1) rfl (.inl v_lbeyond_1))))

abbrev s_lsixes_refused : Stmt := top 47
theorem sc_lsixes_refused : FnScope ["_law_amiss", "_law_ways", "_law_many", "_law_one", "_law_other", "_law_far", "_law_whole", "_law_figures", "_law_first", "_law_second", "_law_due", "_law_given"] ["_law_amiss", "_law_ways", "_law_many", "_law_one", "_law_other", "_law_far"] (defScope s_lsixes_refused) := ⟨rfl, rfl, rfl, by decide +kernel, rfl, by decide +kernel, by decide +kernel⟩
theorem v_lsixes_refused_0 : (defScope s_lsixes_refused).names.lookup ("_law_amiss" : Str) = some NameKind.local := by decide +kernel
theorem v_lsixes_refused_1 : (defScope s_lsixes_refused).names.lookup ("_law_ways" : Str) = some NameKind.local := by decide +kernel
theorem v_lsixes_refused_2 : (defScope s_lsixes_refused).names.lookup ("_law_many" : Str) = some NameKind.local := by decide +kernel
theorem v_lsixes_refused_3 : (defScope s_lsixes_refused).names.lookup ("_law_one" : Str) = some NameKind.local := by decide +kernel
theorem v_lsixes_refused_4 : (defScope s_lsixes_refused).names.lookup ("_law_other" : Str) = some NameKind.local := by decide +kernel
theorem v_lsixes_refused_5 : (defScope s_lsixes_refused).names.lookup ("_law_far" : Str) = some NameKind.local := by decide +kernel
theorem v_lsixes_refused_6 : (defScope s_lsixes_refused).names.lookup ("_law_whole" : Str) = some NameKind.local := by decide +kernel
theorem v_lsixes_refused_7 : (defScope s_lsixes_refused).names.lookup ("_law_figures" : Str) = some NameKind.local := by decide +kernel
theorem v_lsixes_refused_8 : (defScope s_lsixes_refused).names.lookup ("_law_first" : Str) = some NameKind.local := by decide +kernel
theorem v_lsixes_refused_9 : (defScope s_lsixes_refused).names.lookup ("_law_second" : Str) = some NameKind.local := by decide +kernel
theorem v_lsixes_refused_10 : (defScope s_lsixes_refused).names.lookup ("_law_due" : Str) = some NameKind.local := by decide +kernel
theorem v_lsixes_refused_11 : (defScope s_lsixes_refused).names.lookup ("_law_given" : Str) = some NameKind.local := by decide +kernel
theorem g_lsixes_refused_law_power (L a : Addr) (cd : Value) : (PyProof.Rows.envOfC "_law_sixes_refused" (defScope s_lsixes_refused) L a cd).kindOf ("_law_power" : Str) = some NameKind.globalImplicit := rfl
theorem g_lsixes_refused_law_beyond (L a : Addr) (cd : Value) : (PyProof.Rows.envOfC "_law_sixes_refused" (defScope s_lsixes_refused) L a cd).kindOf ("_law_beyond" : Str) = some NameKind.globalImplicit := rfl
theorem g_lsixes_refused_law_refused (L a : Addr) (cd : Value) : (PyProof.Rows.envOfC "_law_sixes_refused" (defScope s_lsixes_refused) L a cd).kindOf ("_law_refused" : Str) = some NameKind.globalImplicit := rfl
theorem ok_lsixes_refused {P : Program} {w : World} {K : PySem.W.Frag} {mg : Str → Option Value} {base : Heap} {f : Addr} {fd : FuncData} (F : Fun K "_law_sixes_refused" "_law_sixes_refused" s_lsixes_refused f fd) (B : Bn mg) (h_lpower : Fd P w K mg base "_law_power" 2 ["_law_base", "_law_many"] [] f_lpower) (h_lbeyond : Fd P w K mg base "_law_beyond" 2 ["_law_most", "_law_way", "_law_far"] [] f_lbeyond) (h_lrefused4 : Fd P w K mg base "_law_refused" 14 ["_law_which", "_law_given"] [] f_lrefused4)    :
    FnOk P w K mg base (L2N.CX P w) 16 f fd ["_law_amiss", "_law_ways", "_law_many", "_law_one", "_law_other", "_law_far"] (spF K mg 6 [] f_lsixes_refused) := by
  refine fn_ok F sc_lsixes_refused (by decide) (by decide) fun cdv A outer s H E hr => ?_
  have nd := sc_lsixes_refused.nd
  have tk : L2N.Takes (cxOf (L2N.CX P w) P w K mg base ["_law_amiss", "_law_ways", "_law_many", "_law_one", "_law_other", "_law_far", "_law_whole", "_law_figures", "_law_first", "_law_second", "_law_due", "_law_given"] "_law_sixes_refused" (defScope s_lsixes_refused) f cdv A outer s H E) (fun cls d _ H => E cls d H) := L2N.takes_of rfl rfl rfl rfl
  have pn : PassesOwn (model P w) (cxOf (L2N.CX P w) P w K mg base ["_law_amiss", "_law_ways", "_law_many", "_law_one", "_law_other", "_law_far", "_law_whole", "_law_figures", "_law_first", "_law_second", "_law_due", "_law_given"] "_law_sixes_refused" (defScope s_lsixes_refused) f cdv A outer s H E).A (cxOf (L2N.CX P w) P w K mg base ["_law_amiss", "_law_ways", "_law_many", "_law_one", "_law_other", "_law_far", "_law_whole", "_law_figures", "_law_first", "_law_second", "_law_due", "_law_given"] "_law_sixes_refused" (defScope s_lsixes_refused) f cdv A outer s H E).env (cxOf (L2N.CX P w) P w K mg base ["_law_amiss", "_law_ways", "_law_many", "_law_one", "_law_other", "_law_far", "_law_whole", "_law_figures", "_law_first", "_law_second", "_law_due", "_law_given"] "_law_sixes_refused" (defScope s_lsixes_refused) f cdv A outer s H E).xe := passes_of rfl
  unfold m_lsixes_refused
  exact mss_cons (ms_set (i := 6) nd rfl (.inl v_lsixes_refused_6) (me_fz (mf_call h_lpower hr (by decide) tk (ma_cons (me_int) (ma_cons (me_var (i := 2) rfl (.inl v_lsixes_refused_2)) (ma_nil))) (lng_cons (lng_cons lng_nil)) (hg := (g_lsixes_refused_law_power _ _ _))))) (mss_cons (ms_set (i := 7) nd rfl (.inl v_lsixes_refused_7) (me_var (i := 2) rfl (.inl v_lsixes_refused_2))) (mss_cons (ms_set (i := 8) nd rfl (.inl v_lsixes_refused_8) (me_mod (me_var (i := 3) rfl (.inl v_lsixes_refused_3)) (me_var (i := 6) rfl (.inl v_lsixes_refused_6)))) (mss_cons (ms_set (i := 9) nd rfl (.inl v_lsixes_refused_9) (me_mod (me_var (i := 4) rfl (.inl v_lsixes_refused_4)) (me_var (i := 6) rfl (.inl v_lsixes_refused_6)))) (mss_cons (ms_set (i := 10) nd rfl (.inl v_lsixes_refused_10) (me_non)) (mss_cons (ms_if (mt_cmp (op_eqM hr.units) os_eq (me_mod (me_var (i := 0) rfl (.inl v_lsixes_refused_0)) (me_int)) (me_int) (nomark _)) (mss_cons (ms_set (i := 9) nd rfl (.inl v_lsixes_refused_9) (me_fz (mf_call h_lbeyond hr (by decide) tk (ma_cons (me_sub (me_var (i := 6) rfl (.inl v_lsixes_refused_6)) (me_int)) (ma_cons (me_mod (me_var (i := 1) rfl (.inl v_lsixes_refused_1)) (me_int)) (ma_cons (me_var (i := 5) rfl (.inl v_lsixes_refused_5)) (ma_nil)))) (lng_cons (lng_cons (lng_cons lng_nil))) (hg := (g_lsixes_refused_law_beyond _ _ _))))) (mss_one (ms_set (i := 10) nd rfl (.inl v_lsixes_refused_10) (me_tup (ma_cons (me_str) (ma_cons (me_var (i := 9) rfl (.inl v_lsixes_refused_9)) (ma_nil))))))) (mss_nil)) (mss_cons (ms_if (mt_cmp (op_eqM hr.units) os_eq (me_mod (me_div (me_var (i := 0) rfl (.inl v_lsixes_refused_0)) (me_int)) (me_int)) (me_int) (nomark _)) (mss_cons (ms_set (i := 8) nd rfl (.inl v_lsixes_refused_8) (me_fz (mf_call h_lbeyond hr (by decide) tk (ma_cons (me_sub (me_var (i := 6) rfl (.inl v_lsixes_refused_6)) (me_int)) (ma_cons (me_mod (me_div (me_var (i := 1) rfl (.inl v_lsixes_refused_1)) (me_int)) (me_int)) (ma_cons (me_add (me_var (i := 5) rfl (.inl v_lsixes_refused_5)) (me_int)) (ma_nil)))) (lng_cons (lng_cons (lng_cons lng_nil))) (hg := (g_lsixes_refused_law_beyond _ _ _))))) (mss_one (ms_set (i := 10) nd rfl (.inl v_lsixes_refused_10) (me_tup (ma_cons (me_str) (ma_cons (me_var (i := 8) rfl (.inl v_lsixes_refused_8)) (ma_nil))))))) (mss_nil)) (mss_cons (ms_if (mt_cmp (op_eqM hr.units) os_eq (me_mod (me_div (me_var (i := 0) rfl (.inl v_lsixes_refused_0)) (me_int)) (me_int)) (me_int) (nomark _)) (mss_cons (ms_set (i := 7) nd rfl (.inl v_lsixes_refused_7) (me_ix (me_lst (ma_cons (me_int) (ma_cons (me_int) (ma_cons (me_neg (me_int)) (ma_cons (me_add (me_int) (me_var (i := 5) rfl (.inl v_lsixes_refused_5))) (ma_nil)))))) (me_div (me_var (i := 1) rfl (.inl v_lsixes_refused_1)) (me_int)))) (mss_one (ms_set (i := 10) nd rfl (.inl v_lsixes_refused_10) (me_tup (ma_cons (me_str) (ma_cons (me_var (i := 7) rfl (.inl v_lsixes_refused_7)) (ma_nil))))))) (mss_nil)) (mss_cons (ms_set (i := 11) nd rfl (.inl v_lsixes_refused_11) (me_tup (ma_cons (me_var (i := 7) rfl (.inl v_lsixes_refused_7)) (ma_cons (me_var (i := 8) rfl (.inl v_lsixes_refused_8)) (ma_cons (me_var (i := 9) rfl (.inl v_lsixes_refused_9)) (ma_nil)))))) (mss_one (ms_ret (me_and (me_cmp (op_eqM hr.units) os_eq (me_fz (mf_call h_lrefused4 hr (by decide) tk (ma_cons (me_int) (ma_cons (me_var (i := 11) rfl (.inl v_lsixes_refused_11)) (ma_nil))) (lng_cons (lng_cons lng_nil)) (hg := (g_lsixes_refused_law_refused _ _ _)))) (me_var (i := 10) rfl (.inl v_lsixes_refused_10)) (nomark _)) (me_one (me_cmp (op_eqM hr.units) os_eq (me_fz (mf_call h_lrefused4 hr (by decide) tk (ma_cons (me_int) (ma_cons (me_var (i := 11) rfl (.inl v_lsixes_refused_11)) (ma_nil))) (lng_cons (lng_cons lng_nil)) (hg := (g_lsixes_refused_law_refused _ _ _)))) (me_var (i := 10) rfl (.inl v_lsixes_refused_10)) (nomark _))))))))))))))

abbrev s_ltries_refused : Stmt := top 48
theorem sc_ltries_refused : FnScope ["_law_amiss", "_law_ways", "_law_one", "_law_other", "_law_far", "_law_due"] ["_law_amiss", "_law_ways", "_law_one", "_law_other", "_law_far"] (defScope s_ltries_refused) := ⟨rfl, rfl, rfl, by decide +kernel, rfl, by decide +kernel, by decide +kernel⟩
theorem v_ltries_refused_0 : (defScope s_ltries_refused).names.lookup ("_law_amiss" : Str) = some NameKind.local := by decide +kernel
theorem v_ltries_refused_1 : (defScope s_ltries_refused).names.lookup ("_law_ways" : Str) = some NameKind.local := by decide +kernel
theorem v_ltries_refused_2 : (defScope s_ltries_refused).names.lookup ("_law_one" : Str) = some NameKind.local := by decide +kernel
theorem v_ltries_refused_3 : (defScope s_ltries_refused).names.lookup ("_law_other" : Str) = some NameKind.local := by decide +kernel
theorem v_ltries_refused_4 : (defScope s_ltries_refused).names.lookup ("_law_far" : Str) = some NameKind.local := by decide +kernel
theorem v_ltries_refused_5 : (defScope s_ltries_refused).names.lookup ("_law_due" : Str) = some NameKind.local := by decide +kernel
theorem g_ltries_refused_law_beyond (L a : Addr) (cd : Value) : (PyProof.Rows.envOfC "_law_tries_refused" (defScope s_ltries_refused) L a cd).kindOf ("_law_beyond" : Str) = some NameKind.globalImplicit := rfl
theorem g_ltries_refused_law_refused (L a : Addr) (cd : Value) : (PyProof.Rows.envOfC "_law_tries_refused" (defScope s_ltries_refused) L a cd).kindOf ("_law_refused" : Str) = some NameKind.globalImplicit := rfl
theorem ok_ltries_refused {P : Program} {w : World} {K : PySem.W.Frag} {mg : Str → Option Value} {base : Heap} {f : Addr} {fd : FuncData} (F : Fun K "_law_tries_refused" "_law_tries_refused" s_ltries_refused f fd) (B : Bn mg) (h_lbeyond : Fd P w K mg base "_law_beyond" 2 ["_law_most", "_law_way", "_law_far"] [] f_lbeyond) (h_lrefused4 : Fd P w K mg base "_law_refused" 14 ["_law_which", "_law_given"] [] f_lrefused4)    :
    FnOk P w K mg base (L2N.CX P w) 16 f fd ["_law_amiss", "_law_ways", "_law_one", "_law_other", "_law_far"] (spF K mg 5 [] f_ltries_refused) := by
  refine fn_ok F sc_ltries_refused (by decide) (by decide) fun cdv A outer s H E hr => ?_
  have nd := sc_ltries_refused.nd
  have tk : L2N.Takes (cxOf (L2N.CX P w) P w K mg base ["_law_amiss", "_law_ways", "_law_one", "_law_other", "_law_far", "_law_due"] "_law_tries_refused" (defScope s_ltries_refused) f cdv A outer s H E) (fun cls d _ H => E cls d H) := L2N.takes_of rfl rfl rfl rfl
  have pn : PassesOwn (model P w) (cxOf (L2N.CX P w) P w K mg base ["_law_amiss", "_law_ways", "_law_one", "_law_other", "_law_far", "_law_due"] "_law_tries_refused" (defScope s_ltries_refused) f cdv A outer s H E).A (cxOf (L2N.CX P w) P w K mg base ["_law_amiss", "_law_ways", "_law_one", "_law_other", "_law_far", "_law_due"] "_law_tries_refused" (defScope s_ltries_refused) f cdv A outer s H E).env (cxOf (L2N.CX P w) P w K mg base ["_law_amiss", "_law_ways", "_law_one", "_law_other", "_law_far", "_law_due"] "_law_tries_refused" (defScope s_ltries_refused) f cdv A outer s H E).xe := passes_of rfl
  unfold m_ltries_refused
  exact mss_cons (ms_set (i := 3) nd rfl (.inl v_ltries_refused_3) (me_add (me_int) (me_mod (me_var (i := 3) rfl (.inl v_ltries_refused_3)) (me_sub (me_pow (me_int) (me_int)) (me_int))))) (mss_cons (ms_set (i := 5) nd rfl (.inl v_ltries_refused_5) (me_non)) (mss_cons (ms_if (mt_cmp (op_eqM hr.units) os_eq (me_mod (me_var (i := 0) rfl (.inl v_ltries_refused_0)) (me_int)) (me_int) (nomark _)) (mss_cons (ms_set (i := 3) nd rfl (.inl v_ltries_refused_3) (me_fz (mf_call h_lbeyond hr (by decide) tk (ma_cons (me_sub (me_pow (me_int) (me_int)) (me_int)) (ma_cons (me_mod (me_var (i := 1) rfl (.inl v_ltries_refused_1)) (me_int)) (ma_cons (me_var (i := 4) rfl (.inl v_ltries_refused_4)) (ma_nil)))) (lng_cons (lng_cons (lng_cons lng_nil))) (hg := (g_ltries_refused_law_beyond _ _ _))))) (mss_one (ms_set (i := 5) nd rfl (.inl v_ltries_refused_5) (me_tup (ma_cons (me_str) (ma_cons (me_var (i := 3) rfl (.inl v_ltries_refused_3)) (ma_nil))))))) (mss_nil)) (mss_cons (ms_if (mt_cmp (op_eqM hr.units) os_eq (me_mod (me_div (me_var (i := 0) rfl (.inl v_ltries_refused_0)) (me_int)) (me_int)) (me_int) (nomark _)) (mss_cons (ms_set (i := 2) nd rfl (.inl v_ltries_refused_2) (me_fz (mf_call h_lbeyond hr (by decide) tk (ma_cons (me_sub (me_pow (me_int) (me_int)) (me_int)) (ma_cons (me_mod (me_div (me_var (i := 1) rfl (.inl v_ltries_refused_1)) (me_int)) (me_int)) (ma_cons (me_add (me_var (i := 4) rfl (.inl v_ltries_refused_4)) (me_int)) (ma_nil)))) (lng_cons (lng_cons (lng_cons lng_nil))) (hg := (g_ltries_refused_law_beyond _ _ _))))) (mss_one (ms_set (i := 5) nd rfl (.inl v_ltries_refused_5) (me_tup (ma_cons (me_str) (ma_cons (me_var (i := 2) rfl (.inl v_ltries_refused_2)) (ma_nil))))))) (mss_nil)) (mss_cons (ms_if (mt_cmp (op_eqM hr.units) os_eq (me_mod (me_div (me_var (i := 0) rfl (.inl v_ltries_refused_0)) (me_int)) (me_int)) (me_int) (nomark _)) (mss_cons (ms_set (i := 3) nd rfl (.inl v_ltries_refused_3) (me_int)) (mss_one (ms_set (i := 5) nd rfl (.inl v_ltries_refused_5) (me_tup (ma_cons (me_str) (ma_cons (me_int) (ma_nil))))))) (mss_nil)) (mss_one (ms_ret (me_and (me_cmp (op_eqM hr.units) os_eq (me_fz (mf_call h_lrefused4 hr (by decide) tk (ma_cons (me_int) (ma_cons (me_tup (ma_cons (me_var (i := 2) rfl (.inl v_ltries_refused_2)) (ma_cons (me_var (i := 3) rfl (.inl v_ltries_refused_3)) (ma_nil)))) (ma_nil))) (lng_cons (lng_cons lng_nil)) (hg := (g_ltries_refused_law_refused _ _ _)))) (me_var (i := 5) rfl (.inl v_ltries_refused_5)) (nomark _)) (me_one (me_cmp (op_eqM hr.units) os_eq (me_fz (mf_call h_lrefused4 hr (by decide) tk (ma_cons (me_int) (ma_cons (me_tup (ma_cons (me_var (i := 2) rfl (.inl v_ltries_refused_2)) (ma_cons (me_var (i := 3) rfl (.inl v_ltries_refused_3)) (ma_nil)))) (ma_nil))) (lng_cons (lng_cons lng_nil)) (hg := (g_ltries_refused_law_refused _ _ _)))) (me_var (i := 5) rfl (.inl v_ltries_refused_5)) (nomark _))))))))))

abbrev s_law76 : Stmt := top 50
theorem sc_law76 : FnScope ["_law_script", "_law_rule", "_law_amiss", "_law_ways", "_law_kind", "_law_many", "_law_one", "_law_other", "_law_by", "_law_far"] ["_law_script"] (defScope s_law76) := ⟨rfl, rfl, rfl, by decide +kernel, rfl, by decide +kernel, by decide +kernel⟩
theorem v_law76_0 : (defScope s_law76).names.lookup ("_law_script" : Str) = some NameKind.local := by decide +kernel
theorem v_law76_1 : (defScope s_law76).names.lookup ("_law_rule" : Str) = some NameKind.local := by decide +kernel
theorem v_law76_2 : (defScope s_law76).names.lookup ("_law_amiss" : Str) = some NameKind.local := by decide +kernel
theorem v_law76_3 : (defScope s_law76).names.lookup ("_law_ways" : Str) = some NameKind.local := by decide +kernel
theorem v_law76_4 : (defScope s_law76).names.lookup ("_law_kind" : Str) = some NameKind.local := by decide +kernel
theorem v_law76_5 : (defScope s_law76).names.lookup ("_law_many" : Str) = some NameKind.local := by decide +kernel
theorem v_law76_6 : (defScope s_law76).names.lookup ("_law_one" : Str) = some NameKind.local := by decide +kernel
theorem v_law76_7 : (defScope s_law76).names.lookup ("_law_other" : Str) = some NameKind.local := by decide +kernel
theorem v_law76_8 : (defScope s_law76).names.lookup ("_law_by" : Str) = some NameKind.local := by decide +kernel
theorem v_law76_9 : (defScope s_law76).names.lookup ("_law_far" : Str) = some NameKind.local := by decide +kernel
theorem g_law76_law_cell (L a : Addr) (cd : Value) : (PyProof.Rows.envOfC "law" (defScope s_law76) L a cd).kindOf ("_law_cell" : Str) = some NameKind.globalImplicit := rfl
theorem g_law76_law_draws (L a : Addr) (cd : Value) : (PyProof.Rows.envOfC "law" (defScope s_law76) L a cd).kindOf ("_law_draws" : Str) = some NameKind.globalImplicit := rfl
theorem g_law76_law_sixes_refused (L a : Addr) (cd : Value) : (PyProof.Rows.envOfC "law" (defScope s_law76) L a cd).kindOf ("_law_sixes_refused" : Str) = some NameKind.globalImplicit := rfl
theorem g_law76_law_tries_refused (L a : Addr) (cd : Value) : (PyProof.Rows.envOfC "law" (defScope s_law76) L a cd).kindOf ("_law_tries_refused" : Str) = some NameKind.globalImplicit := rfl
theorem g_law76_law_rounding_refused (L a : Addr) (cd : Value) : (PyProof.Rows.envOfC "law" (defScope s_law76) L a cd).kindOf ("_law_rounding_refused" : Str) = some NameKind.globalImplicit := rfl
theorem ok_law76 {P : Program} {w : World} {K : PySem.W.Frag} {mg : Str → Option Value} {base : Heap} {f : Addr} {fd : FuncData} (F : Fun K "law" "law" s_law76 f fd) (B : Bn mg) (h_ldraws : Fd P w K mg base "_law_draws" 4 ["_law_cell_here", "_law_salt", "_law_widths"] [] f_ldraws) (h_lcell : Fd P w K mg base "_law_cell" 2 ["_law_script", "_law_k"] [] f_lcell) (h_lsixes_refused : Fd P w K mg base "_law_sixes_refused" 16 ["_law_amiss", "_law_ways", "_law_many", "_law_one", "_law_other", "_law_far"] [] f_lsixes_refused) (h_ltries_refused : Fd P w K mg base "_law_tries_refused" 16 ["_law_amiss", "_law_ways", "_law_one", "_law_other", "_law_far"] [] f_ltries_refused) (h_lrounding_refused : Fd P w K mg base "_law_rounding_refused" 16 ["_law_amiss", "_law_ways", "_law_number", "_law_by", "_law_rule", "_law_far"] [] f_lrounding_refused)    :
    FnOk P w K mg base (L2N.CX P w) 18 f fd ["_law_script"] (spF K mg 1 [] f_law76) := by
  refine fn_ok F sc_law76 (by decide) (by decide) fun cdv A outer s H E hr => ?_
  have nd := sc_law76.nd
  have tk : L2N.Takes (cxOf (L2N.CX P w) P w K mg base ["_law_script", "_law_rule", "_law_amiss", "_law_ways", "_law_kind", "_law_many", "_law_one", "_law_other", "_law_by", "_law_far"] "law" (defScope s_law76) f cdv A outer s H E) (fun cls d _ H => E cls d H) := L2N.takes_of rfl rfl rfl rfl
  have pn : PassesOwn (model P w) (cxOf (L2N.CX P w) P w K mg base ["_law_script", "_law_rule", "_law_amiss", "_law_ways", "_law_kind", "_law_many", "_law_one", "_law_other", "_law_by", "_law_far"] "law" (defScope s_law76) f cdv A outer s H E).A (cxOf (L2N.CX P w) P w K mg base ["_law_script", "_law_rule", "_law_amiss", "_law_ways", "_law_kind", "_law_many", "_law_one", "_law_other", "_law_by", "_law_far"] "law" (defScope s_law76) f cdv A outer s H E).env (cxOf (L2N.CX P w) P w K mg base ["_law_script", "_law_rule", "_law_amiss", "_law_ways", "_law_kind", "_law_many", "_law_one", "_law_other", "_law_by", "_law_far"] "law" (defScope s_law76) f cdv A outer s H E).xe := passes_of rfl
  unfold m_law76
  exact mss_cons (ms_asg (me_fz (mf_call h_ldraws hr (by decide) tk (ma_cons (me_fz (mf_call h_lcell hr (by decide) tk (ma_cons (me_var (i := 0) rfl (.inl v_law76_0)) (ma_cons (me_int) (ma_nil))) (lng_cons (lng_cons lng_nil)) (hg := (g_law76_law_cell _ _ _)))) (ma_cons (me_int) (ma_cons (me_lst (ma_cons (me_int) (ma_cons (me_int) (ma_cons (me_int) (ma_nil))))) (ma_nil)))) (lng_cons (lng_cons (lng_cons lng_nil))) (hg := (g_law76_law_draws _ _ _)))) (mg_tup rfl (mgs_cons (mg_name (i := 2) nd rfl (.inl v_law76_2)) (mgs_cons (mg_name (i := 3) nd rfl (.inl v_law76_3)) (mgs_cons (mg_name (i := 4) nd rfl (.inl v_law76_4)) (mgs_nil)))))) (mss_cons (ms_asg (me_fz (mf_call h_ldraws hr (by decide) tk (ma_cons (me_fz (mf_call h_lcell hr (by decide) tk (ma_cons (me_var (i := 0) rfl (.inl v_law76_0)) (ma_cons (me_int) (ma_nil))) (lng_cons (lng_cons lng_nil)) (hg := (g_law76_law_cell _ _ _)))) (ma_cons (me_int) (ma_cons (me_lst (ma_cons (me_int) (ma_cons (me_pow (me_int) (me_int)) (ma_cons (me_pow (me_int) (me_int)) (ma_cons (me_int) (ma_cons (me_pow (me_int) (me_int)) (ma_nil))))))) (ma_nil)))) (lng_cons (lng_cons (lng_cons lng_nil))) (hg := (g_law76_law_draws _ _ _)))) (mg_tup rfl (mgs_cons (mg_name (i := 5) nd rfl (.inl v_law76_5)) (mgs_cons (mg_name (i := 6) nd rfl (.inl v_law76_6)) (mgs_cons (mg_name (i := 7) nd rfl (.inl v_law76_7)) (mgs_cons (mg_name (i := 8) nd rfl (.inl v_law76_8)) (mgs_cons (mg_name (i := 9) nd rfl (.inl v_law76_9)) (mgs_nil)))))))) (mss_cons (ms_set (i := 1) nd rfl (.inl v_law76_1) (me_ix (me_tup (ma_cons (me_str) (ma_cons (me_str) (ma_cons (me_str) (ma_cons (me_str) (ma_cons (me_str) (ma_cons (me_str) (ma_nil)))))))) (me_var (i := 4) rfl (.inl v_law76_4)))) (mss_cons (ms_if (mt_not (mt_val (me_fz (mf_call h_lsixes_refused hr (by decide) tk (ma_cons (me_var (i := 2) rfl (.inl v_law76_2)) (ma_cons (me_var (i := 3) rfl (.inl v_law76_3)) (ma_cons (me_add (me_int) (me_var (i := 5) rfl (.inl v_law76_5))) (ma_cons (me_var (i := 6) rfl (.inl v_law76_6)) (ma_cons (me_var (i := 7) rfl (.inl v_law76_7)) (ma_cons (me_var (i := 9) rfl (.inl v_law76_9)) (ma_nil))))))) (lng_cons (lng_cons (lng_cons (lng_cons (lng_cons (lng_cons lng_nil)))))) (hg := (g_law76_law_sixes_refused _ _ _)))))) (mss_one (ms_ret (me_bl))) (mss_nil)) (mss_cons (ms_if (mt_not (mt_val (me_fz (mf_call h_ltries_refused hr (by decide) tk (ma_cons (me_var (i := 2) rfl (.inl v_law76_2)) (ma_cons (me_var (i := 3) rfl (.inl v_law76_3)) (ma_cons (me_var (i := 6) rfl (.inl v_law76_6)) (ma_cons (me_var (i := 7) rfl (.inl v_law76_7)) (ma_cons (me_var (i := 9) rfl (.inl v_law76_9)) (ma_nil)))))) (lng_cons (lng_cons (lng_cons (lng_cons (lng_cons lng_nil))))) (hg := (g_law76_law_tries_refused _ _ _)))))) (mss_one (ms_ret (me_bl))) (mss_nil)) (mss_one (ms_ret (me_fz (mf_call h_lrounding_refused hr (by decide) tk (ma_cons (me_var (i := 2) rfl (.inl v_law76_2)) (ma_cons (me_var (i := 3) rfl (.inl v_law76_3)) (ma_cons (me_var (i := 6) rfl (.inl v_law76_6)) (ma_cons (me_add (me_int) (me_var (i := 8) rfl (.inl v_law76_8))) (ma_cons (me_var (i := 1) rfl (.inl v_law76_1)) (ma_cons (me_var (i := 9) rfl (.inl v_law76_9)) (ma_nil))))))) (lng_cons (lng_cons (lng_cons (lng_cons (lng_cons (lng_cons lng_nil)))))) (hg := (g_law76_law_rounding_refused _ _ _))))))))))

theorem all_mk {l : PySem.W.OpenLaw} {w : World} {K : PySem.W.Frag} {h : Heap} {mg : Str → Option Value} {fa f0 f1 f2 f3 f4 f5 f6 f7 f8 f9 f10 f11 f12 f13 f14 f15 f16 f17 f18 f19 f20 f21 f22 f23 f24 f25 : Addr} (X : K.In h) (G : h.Ns mainGlobals mg) (hfa : mg "law" = some (.ref fa))
    {od0 an0 od1 an1 od2 an2 od3 an3 od4 an4 od5 an5 od6 an6 od7 an7 od8 an8 od9 an9 od10 an10 od11 an11 od12 an12 od13 an13 od14 an14 od15 an15 od16 an16 od17 an17 od18 an18 od19 an19 od20 an20 od21 an21 od22 an22 od23 an23 od24 an24 od25 an25 : Option Addr} {sl0 sl1 sl2 sl3 sl4 sl5 sl6 sl7 sl8 sl9 sl10 sl11 sl12 sl13 sl14 sl15 sl16 sl17 sl18 sl19 sl20 sl21 sl22 sl23 sl24 sl25 : Array (Option Value)} {oc0 kV0 dc0 pm0 cd0 ct0 oc1 kV1 dc1 pm1 cd1 ct1 oc2 kV2 dc2 pm2 cd2 ct2 oc3 kV3 dc3 pm3 cd3 ct3 oc4 kV4 dc4 pm4 cd4 ct4 oc5 kV5 dc5 pm5 cd5 ct5 oc6 kV6 dc6 pm6 cd6 ct6 oc7 kV7 dc7 pm7 cd7 ct7 oc8 kV8 dc8 pm8 cd8 ct8 oc9 kV9 dc9 pm9 cd9 ct9 oc10 kV10 dc10 pm10 cd10 ct10 oc11 kV11 dc11 pm11 cd11 ct11 oc12 kV12 dc12 pm12 cd12 ct12 oc13 kV13 dc13 pm13 cd13 ct13 oc14 kV14 dc14 pm14 cd14 ct14 oc15 kV15 dc15 pm15 cd15 ct15 oc16 kV16 dc16 pm16 cd16 ct16 oc17 kV17 dc17 pm17 cd17 ct17 oc18 kV18 dc18 pm18 cd18 ct18 oc19 kV19 dc19 pm19 cd19 ct19 oc20 kV20 dc20 pm20 cd20 ct20 oc21 kV21 dc21 pm21 cd21 ct21 oc22 kV22 dc22 pm22 cd22 ct22 oc23 kV23 dc23 pm23 cd23 ct23 oc24 kV24 dc24 pm24 cd24 ct24 oc25 kV25 dc25 pm25 cd25 ct25 : Value}
    (a0 : PySem.W.nsIn K mainGlobals "_law_mixed" = some (some (.ref f0))) (l0 : K.lookup f0 = some ⟨oc0, od0, .func (PySem.W.fnOf "_law_mixed" "_law_mixed" (defArgs s_lmixed) (defBody s_lmixed) (defScope s_lmixed) .none kV0 dc0 pm0 an0 cd0 ct0), sl0⟩) (c0 : PySem.W.codeIn K cd0 "_law_mixed" = true) (k0 : PySem.W.keepIn K (.ref f0) = true)
    (a1 : PySem.W.nsIn K mainGlobals "_law_draws" = some (some (.ref f1))) (l1 : K.lookup f1 = some ⟨oc1, od1, .func (PySem.W.fnOf "_law_draws" "_law_draws" (defArgs s_ldraws) (defBody s_ldraws) (defScope s_ldraws) .none kV1 dc1 pm1 an1 cd1 ct1), sl1⟩) (c1 : PySem.W.codeIn K cd1 "_law_draws" = true) (k1 : PySem.W.keepIn K (.ref f1) = true)
    (a2 : PySem.W.nsIn K mainGlobals "figures_of" = some (some (.ref f2))) (l2 : K.lookup f2 = some ⟨oc2, od2, .func (PySem.W.fnOf "figures_of" "figures_of" (defArgs s_pfigures_of) (defBody s_pfigures_of) (defScope s_pfigures_of) .none kV2 dc2 pm2 an2 cd2 ct2), sl2⟩) (c2 : PySem.W.codeIn K cd2 "figures_of" = true) (k2 : PySem.W.keepIn K (.ref f2) = true)
    (a3 : PySem.W.nsIn K mainGlobals "why_of" = some (some (.ref f3))) (l3 : K.lookup f3 = some ⟨oc3, od3, .func (PySem.W.fnOf "why_of" "why_of" (defArgs s_pwhy_of) (defBody s_pwhy_of) (defScope s_pwhy_of) .none kV3 dc3 pm3 an3 cd3 ct3), sl3⟩) (c3 : PySem.W.codeIn K cd3 "why_of" = true) (k3 : PySem.W.keepIn K (.ref f3) = true)
    (a4 : PySem.W.nsIn K mainGlobals "sum_lines" = some (some (.ref f4))) (l4 : K.lookup f4 = some ⟨oc4, od4, .func (PySem.W.fnOf "sum_lines" "sum_lines" (defArgs s_psum_lines) (defBody s_psum_lines) (defScope s_psum_lines) .none kV4 dc4 pm4 an4 cd4 ct4), sl4⟩) (c4 : PySem.W.codeIn K cd4 "sum_lines" = true) (k4 : PySem.W.keepIn K (.ref f4) = true)
    (a5 : PySem.W.nsIn K mainGlobals "number_by" = some (some (.ref f5))) (l5 : K.lookup f5 = some ⟨oc5, od5, .func (PySem.W.fnOf "number_by" "number_by" (defArgs s_pnumber_by) (defBody s_pnumber_by) (defScope s_pnumber_by) .none kV5 dc5 pm5 an5 cd5 ct5), sl5⟩) (c5 : PySem.W.codeIn K cd5 "number_by" = true) (k5 : PySem.W.keepIn K (.ref f5) = true)
    (a6 : PySem.W.nsIn K mainGlobals "power" = some (some (.ref f6))) (l6 : K.lookup f6 = some ⟨oc6, od6, .func (PySem.W.fnOf "power" "power" (defArgs s_ppower) (defBody s_ppower) (defScope s_ppower) .none kV6 dc6 pm6 an6 cd6 ct6), sl6⟩) (c6 : PySem.W.codeIn K cd6 "power" = true) (k6 : PySem.W.keepIn K (.ref f6) = true)
    (a7 : PySem.W.nsIn K mainGlobals "sixes" = some (some (.ref f7))) (l7 : K.lookup f7 = some ⟨oc7, od7, .func (PySem.W.fnOf "sixes" "sixes" (defArgs s_psixes) (defBody s_psixes) (defScope s_psixes) .none kV7 dc7 pm7 an7 cd7 ct7), sl7⟩) (c7 : PySem.W.codeIn K cd7 "sixes" = true) (k7 : PySem.W.keepIn K (.ref f7) = true)
    (a8 : PySem.W.nsIn K mainGlobals "is_just" = some (some (.ref f8))) (l8 : K.lookup f8 = some ⟨oc8, od8, .func (PySem.W.fnOf "is_just" "is_just" (defArgs s_pis_just) (defBody s_pis_just) (defScope s_pis_just) .none kV8 dc8 pm8 an8 cd8 ct8), sl8⟩) (c8 : PySem.W.codeIn K cd8 "is_just" = true) (k8 : PySem.W.keepIn K (.ref f8) = true)
    (a9 : PySem.W.nsIn K mainGlobals "sixes_hold" = some (some (.ref f9))) (l9 : K.lookup f9 = some ⟨oc9, od9, .func (PySem.W.fnOf "sixes_hold" "sixes_hold" (defArgs s_psixes_hold) (defBody s_psixes_hold) (defScope s_psixes_hold) .none kV9 dc9 pm9 an9 cd9 ct9), sl9⟩) (c9 : PySem.W.codeIn K cd9 "sixes_hold" = true) (k9 : PySem.W.keepIn K (.ref f9) = true)
    (a10 : PySem.W.nsIn K mainGlobals "_law_sorts" = some (some (.ref f10))) (l10 : K.lookup f10 = some ⟨oc10, od10, .func (PySem.W.fnOf "_law_sorts" "_law_sorts" (defArgs s_lsorts) (defBody s_lsorts) (defScope s_lsorts) .none kV10 dc10 pm10 an10 cd10 ct10), sl10⟩) (c10 : PySem.W.codeIn K cd10 "_law_sorts" = true) (k10 : PySem.W.keepIn K (.ref f10) = true)
    (a11 : PySem.W.nsIn K mainGlobals "tried" = some (some (.ref f11))) (l11 : K.lookup f11 = some ⟨oc11, od11, .func (PySem.W.fnOf "tried" "tried" (defArgs s_ptried) (defBody s_ptried) (defScope s_ptried) .none kV11 dc11 pm11 an11 cd11 ct11), sl11⟩) (c11 : PySem.W.codeIn K cd11 "tried" = true) (k11 : PySem.W.keepIn K (.ref f11) = true)
    (a12 : PySem.W.nsIn K mainGlobals "tries" = some (some (.ref f12))) (l12 : K.lookup f12 = some ⟨oc12, od12, .func (PySem.W.fnOf "tries" "tries" (defArgs s_ptries) (defBody s_ptries) (defScope s_ptries) .none kV12 dc12 pm12 an12 cd12 ct12), sl12⟩) (c12 : PySem.W.codeIn K cd12 "tries" = true) (k12 : PySem.W.keepIn K (.ref f12) = true)
    (a13 : PySem.W.nsIn K mainGlobals "tries_hold" = some (some (.ref f13))) (l13 : K.lookup f13 = some ⟨oc13, od13, .func (PySem.W.fnOf "tries_hold" "tries_hold" (defArgs s_ptries_hold) (defBody s_ptries_hold) (defScope s_ptries_hold) .none kV13 dc13 pm13 an13 cd13 ct13), sl13⟩) (c13 : PySem.W.codeIn K cd13 "tries_hold" = true) (k13 : PySem.W.keepIn K (.ref f13) = true)
    (a14 : PySem.W.nsIn K mainGlobals "one_more" = some (some (.ref f14))) (l14 : K.lookup f14 = some ⟨oc14, od14, .func (PySem.W.fnOf "one_more" "one_more" (defArgs s_pone_more) (defBody s_pone_more) (defScope s_pone_more) .none kV14 dc14 pm14 an14 cd14 ct14), sl14⟩) (c14 : PySem.W.codeIn K cd14 "one_more" = true) (k14 : PySem.W.keepIn K (.ref f14) = true)
    (a15 : PySem.W.nsIn K mainGlobals "rounded" = some (some (.ref f15))) (l15 : K.lookup f15 = some ⟨oc15, od15, .func (PySem.W.fnOf "rounded" "rounded" (defArgs s_prounded) (defBody s_prounded) (defScope s_prounded) .none kV15 dc15 pm15 an15 cd15 ct15), sl15⟩) (c15 : PySem.W.codeIn K cd15 "rounded" = true) (k15 : PySem.W.keepIn K (.ref f15) = true)
    (a16 : PySem.W.nsIn K mainGlobals "rounding" = some (some (.ref f16))) (l16 : K.lookup f16 = some ⟨oc16, od16, .func (PySem.W.fnOf "rounding" "rounding" (defArgs s_prounding) (defBody s_prounding) (defScope s_prounding) .none kV16 dc16 pm16 an16 cd16 ct16), sl16⟩) (c16 : PySem.W.codeIn K cd16 "rounding" = true) (k16 : PySem.W.keepIn K (.ref f16) = true)
    (a17 : PySem.W.nsIn K mainGlobals "rounding_holds" = some (some (.ref f17))) (l17 : K.lookup f17 = some ⟨oc17, od17, .func (PySem.W.fnOf "rounding_holds" "rounding_holds" (defArgs s_prounding_holds) (defBody s_prounding_holds) (defScope s_prounding_holds) .none kV17 dc17 pm17 an17 cd17 ct17), sl17⟩) (c17 : PySem.W.codeIn K cd17 "rounding_holds" = true) (k17 : PySem.W.keepIn K (.ref f17) = true)
    (a18 : PySem.W.nsIn K mainGlobals "_law_refused" = some (some (.ref f18))) (l18 : K.lookup f18 = some ⟨oc18, od18, .func (PySem.W.fnOf "_law_refused" "_law_refused" (defArgs s_lrefused4) (defBody s_lrefused4) (defScope s_lrefused4) .none kV18 dc18 pm18 an18 cd18 ct18), sl18⟩) (c18 : PySem.W.codeIn K cd18 "_law_refused" = true) (k18 : PySem.W.keepIn K (.ref f18) = true)
    (a19 : PySem.W.nsIn K mainGlobals "_law_rounding_refused" = some (some (.ref f19))) (l19 : K.lookup f19 = some ⟨oc19, od19, .func (PySem.W.fnOf "_law_rounding_refused" "_law_rounding_refused" (defArgs s_lrounding_refused) (defBody s_lrounding_refused) (defScope s_lrounding_refused) .none kV19 dc19 pm19 an19 cd19 ct19), sl19⟩) (c19 : PySem.W.codeIn K cd19 "_law_rounding_refused" = true) (k19 : PySem.W.keepIn K (.ref f19) = true)
    (a20 : PySem.W.nsIn K mainGlobals "_law_cell" = some (some (.ref f20))) (l20 : K.lookup f20 = some ⟨oc20, od20, .func (PySem.W.fnOf "_law_cell" "_law_cell" (defArgs s_lcell) (defBody s_lcell) (defScope s_lcell) .none kV20 dc20 pm20 an20 cd20 ct20), sl20⟩) (c20 : PySem.W.codeIn K cd20 "_law_cell" = true) (k20 : PySem.W.keepIn K (.ref f20) = true)
    (a21 : PySem.W.nsIn K mainGlobals "_law_power" = some (some (.ref f21))) (l21 : K.lookup f21 = some ⟨oc21, od21, .func (PySem.W.fnOf "_law_power" "_law_power" (defArgs s_lpower) (defBody s_lpower) (defScope s_lpower) .none kV21 dc21 pm21 an21 cd21 ct21), sl21⟩) (c21 : PySem.W.codeIn K cd21 "_law_power" = true) (k21 : PySem.W.keepIn K (.ref f21) = true)
    (a22 : PySem.W.nsIn K mainGlobals "_law_beyond" = some (some (.ref f22))) (l22 : K.lookup f22 = some ⟨oc22, od22, .func (PySem.W.fnOf "_law_beyond" "_law_beyond" (defArgs s_lbeyond) (defBody s_lbeyond) (defScope s_lbeyond) .none kV22 dc22 pm22 an22 cd22 ct22), sl22⟩) (c22 : PySem.W.codeIn K cd22 "_law_beyond" = true) (k22 : PySem.W.keepIn K (.ref f22) = true)
    (a23 : PySem.W.nsIn K mainGlobals "_law_sixes_refused" = some (some (.ref f23))) (l23 : K.lookup f23 = some ⟨oc23, od23, .func (PySem.W.fnOf "_law_sixes_refused" "_law_sixes_refused" (defArgs s_lsixes_refused) (defBody s_lsixes_refused) (defScope s_lsixes_refused) .none kV23 dc23 pm23 an23 cd23 ct23), sl23⟩) (c23 : PySem.W.codeIn K cd23 "_law_sixes_refused" = true) (k23 : PySem.W.keepIn K (.ref f23) = true)
    (a24 : PySem.W.nsIn K mainGlobals "_law_tries_refused" = some (some (.ref f24))) (l24 : K.lookup f24 = some ⟨oc24, od24, .func (PySem.W.fnOf "_law_tries_refused" "_law_tries_refused" (defArgs s_ltries_refused) (defBody s_ltries_refused) (defScope s_ltries_refused) .none kV24 dc24 pm24 an24 cd24 ct24), sl24⟩) (c24 : PySem.W.codeIn K cd24 "_law_tries_refused" = true) (k24 : PySem.W.keepIn K (.ref f24) = true)
    (a25 : PySem.W.nsIn K mainGlobals "law" = some (some (.ref f25))) (l25 : K.lookup f25 = some ⟨oc25, od25, .func (PySem.W.fnOf "law" "law" (defArgs s_law76) (defBody s_law76) (defScope s_law76) .none kV25 dc25 pm25 an25 cd25 ct25), sl25⟩) (c25 : PySem.W.codeIn K cd25 "law" = true) (k25 : PySem.W.keepIn K (.ref f25) = true)
    (z_len : PySem.W.nsIn K mainGlobals "len" = some none)
    (z_range : PySem.W.nsIn K mainGlobals "range" = some none)
    (z_abs : PySem.W.nsIn K mainGlobals "abs" = some none)
    (z_max : PySem.W.nsIn K mainGlobals "max" = some none)
    (z_min : PySem.W.nsIn K mainGlobals "min" = some none)
    (z_int : PySem.W.nsIn K mainGlobals "int" = some none)
    (z_str : PySem.W.nsIn K mainGlobals "str" = some none)
    (z_tuple : PySem.W.nsIn K mainGlobals "tuple" = some none)
    (z_list : PySem.W.nsIn K mainGlobals "list" = some none)
    (z_all : PySem.W.nsIn K mainGlobals "all" = some none)
    (z_any : PySem.W.nsIn K mainGlobals "any" = some none)
    (z_isinstance : PySem.W.nsIn K mainGlobals "isinstance" = some none)
    (z_divmod : PySem.W.nsIn K mainGlobals "divmod" = some none)
    (z_sum : PySem.W.nsIn K mainGlobals "sum" = some none)
    (z_zip : PySem.W.nsIn K mainGlobals "zip" = some none)
    (z_enumerate : PySem.W.nsIn K mainGlobals "enumerate" = some none)
    (z_reversed : PySem.W.nsIn K mainGlobals "reversed" = some none)
    (z_sorted : PySem.W.nsIn K mainGlobals "sorted" = some none)
    (z_dict : PySem.W.nsIn K mainGlobals "dict" = some none)
    (z_set : PySem.W.nsIn K mainGlobals "set" = some none)
    (z_bool : PySem.W.nsIn K mainGlobals "bool" = some none)
    {qt_MOST_FIGURES : Tok} (qa_MOST_FIGURES : PySem.W.nsIn K mainGlobals "MOST_FIGURES" = some (some (.int 12 qt_MOST_FIGURES)))
    {qt_BOUND : Tok} (qa_BOUND : PySem.W.nsIn K mainGlobals "BOUND" = some (some (.int 1000000000000 qt_BOUND)))
    {q_RULES : Addr} {qd_RULES : Option Addr} {qi_RULES : Array Value} {qn_RULES : Nat} {qs_RULES : Array (Option Value)} (qa_RULES : PySem.W.nsIn K mainGlobals "RULES" = some (some (.ref q_RULES))) (ql_RULES : K.lookup q_RULES = some ⟨.type "tuple", qd_RULES, .seq qi_RULES qn_RULES, qs_RULES⟩) (qe_RULES : flatsIs [(.str "cut"), (.str "up"), (.str "half"), (.str "even"), (.str "floor"), (.str "ceil")] qi_RULES.toList = true) (qz_RULES : qi_RULES.size ≤ 1000)
    {c_BadLine : Addr} (n_BadLine : PySem.W.nsIn K mainGlobals "BadLine" = some (some (.ref c_BadLine)))
    {c_LoftError : Addr} (n_LoftError : PySem.W.nsIn K mainGlobals "LoftError" = some (some (.ref c_LoftError)))
    {c_NoDeed : Addr} (n_NoDeed : PySem.W.nsIn K mainGlobals "NoDeed" = some (some (.ref c_NoDeed)))
    {c_NoFit : Addr} (n_NoFit : PySem.W.nsIn K mainGlobals "NoFit" = some (some (.ref c_NoFit)))
    {c_NoLine : Addr} (n_NoLine : PySem.W.nsIn K mainGlobals "NoLine" = some (some (.ref c_NoLine)))
    {c_NoName : Addr} (n_NoName : PySem.W.nsIn K mainGlobals "NoName" = some (some (.ref c_NoName)))
    {c_NoRow : Addr} (n_NoRow : PySem.W.nsIn K mainGlobals "NoRow" = some (some (.ref c_NoRow)))
    {c_NoRule : Addr} (n_NoRule : PySem.W.nsIn K mainGlobals "NoRule" = some (some (.ref c_NoRule)))
    {c_NoShape : Addr} (n_NoShape : PySem.W.nsIn K mainGlobals "NoShape" = some (some (.ref c_NoShape)))
    {c_NoTable : Addr} (n_NoTable : PySem.W.nsIn K mainGlobals "NoTable" = some (some (.ref c_NoTable)))
    {c_NoText : Addr} (n_NoText : PySem.W.nsIn K mainGlobals "NoText" = some (some (.ref c_NoText)))
    {c_NothingDone : Addr} (n_NothingDone : PySem.W.nsIn K mainGlobals "NothingDone" = some (some (.ref c_NothingDone)))
    {c_Nought : Addr} (n_Nought : PySem.W.nsIn K mainGlobals "Nought" = some (some (.ref c_Nought)))
    {c_TooLong : Addr} (n_TooLong : PySem.W.nsIn K mainGlobals "TooLong" = some (some (.ref c_TooLong)))
    {c_Unlike : Addr} (n_Unlike : PySem.W.nsIn K mainGlobals "Unlike" = some (some (.ref c_Unlike)))
    {c_Wrong : Addr} (n_Wrong : PySem.W.nsIn K mainGlobals "Wrong" = some (some (.ref c_Wrong)))
    (b1_LoftError : PySem.W.readsIn K c_LoftError (.type "type") = true)
    (b2_LoftError : PySem.W.specialIn K (.ref c_LoftError) "__getattribute__" = some (some (.builtin "type.__getattribute__")))
    (b3_LoftError : PySem.W.findCls K (.ref c_LoftError) (.type "type") "__init__" = some (.val (.builtin "ValueError.__init__")))
    {nm_NoFit q_NoFit : Str} {N_NoFit i_NoFit : Addr} {bs_NoFit : List Value} {sn_NoFit : List Str} {sub_NoFit : List Value} {ab_NoFit : Bool} {col_NoFit : Option Bool} {dd_NoFit : Option Addr} {k0_NoFit k1_NoFit k2_NoFit k3_NoFit k5_NoFit : Option Value}
    (l_NoFit : K.lookup c_NoFit = some (excClassObj nm_NoFit q_NoFit c_NoFit N_NoFit bs_NoFit [.ref c_LoftError, .type "ValueError", .type "Exception", .type "BaseException", .type "object"] true sn_NoFit sub_NoFit ab_NoFit col_NoFit dd_NoFit k0_NoFit k1_NoFit k2_NoFit k3_NoFit k5_NoFit "ValueError.__new__"))
    (s_NoFit : PySem.W.findIn K (.ref c_NoFit) "__setattr__" = some (some (.builtin "object.__setattr__")))
    (e_NoFit : PySem.W.subIn K (.ref c_NoFit) (.type "BaseException") = some true)
    (t_NoFit : PySem.W.typeIn K (.ref c_NoFit) = some (.type "type"))
    (p_NoFit : PySem.W.keepIn K (.ref c_NoFit) = true)
    (i_NoFit_ : PySem.W.findIn K (.ref c_NoFit) "__init__" = some (some (.ref i_NoFit)))
    (j_NoFit : PySem.W.typeIn K (.ref i_NoFit) = some (.type "function"))
    (f_NoFit_number : PySem.W.findIn K (.ref c_NoFit) "number" = some none)
    {io_NoFit ik_NoFit id_NoFit ip_NoFit ic_NoFit it_NoFit : Value} {iod_NoFit ia_NoFit : Option Addr} {is_NoFit : Array (Option Value)}
    (g_NoFit : K.lookup i_NoFit = some ⟨io_NoFit, iod_NoFit, .func (PySem.W.fnOf "__init__" "NoFit.__init__" (defArgs s_ini_NoFit) (defBody s_ini_NoFit) (defScope s_ini_NoFit) .none ik_NoFit id_NoFit ip_NoFit ia_NoFit ic_NoFit it_NoFit), is_NoFit⟩)
    (h_NoFit_ : PySem.W.codeIn K ic_NoFit "NoFit.__init__" = true)
    (m_NoFit_ : PySem.W.keepIn K (.ref i_NoFit) = true)
    {nm_NoRule q_NoRule : Str} {N_NoRule i_NoRule : Addr} {bs_NoRule : List Value} {sn_NoRule : List Str} {sub_NoRule : List Value} {ab_NoRule : Bool} {col_NoRule : Option Bool} {dd_NoRule : Option Addr} {k0_NoRule k1_NoRule k2_NoRule k3_NoRule k5_NoRule : Option Value}
    (l_NoRule : K.lookup c_NoRule = some (excClassObj nm_NoRule q_NoRule c_NoRule N_NoRule bs_NoRule [.ref c_LoftError, .type "ValueError", .type "Exception", .type "BaseException", .type "object"] true sn_NoRule sub_NoRule ab_NoRule col_NoRule dd_NoRule k0_NoRule k1_NoRule k2_NoRule k3_NoRule k5_NoRule "ValueError.__new__"))
    (s_NoRule : PySem.W.findIn K (.ref c_NoRule) "__setattr__" = some (some (.builtin "object.__setattr__")))
    (e_NoRule : PySem.W.subIn K (.ref c_NoRule) (.type "BaseException") = some true)
    (t_NoRule : PySem.W.typeIn K (.ref c_NoRule) = some (.type "type"))
    (p_NoRule : PySem.W.keepIn K (.ref c_NoRule) = true)
    (i_NoRule_ : PySem.W.findIn K (.ref c_NoRule) "__init__" = some (some (.ref i_NoRule)))
    (j_NoRule : PySem.W.typeIn K (.ref i_NoRule) = some (.type "function"))
    (f_NoRule_rule : PySem.W.findIn K (.ref c_NoRule) "rule" = some none)
    {io_NoRule ik_NoRule id_NoRule ip_NoRule ic_NoRule it_NoRule : Value} {iod_NoRule ia_NoRule : Option Addr} {is_NoRule : Array (Option Value)}
    (g_NoRule : K.lookup i_NoRule = some ⟨io_NoRule, iod_NoRule, .func (PySem.W.fnOf "__init__" "NoRule.__init__" (defArgs s_ini_NoRule) (defBody s_ini_NoRule) (defScope s_ini_NoRule) .none ik_NoRule id_NoRule ip_NoRule ia_NoRule ic_NoRule it_NoRule), is_NoRule⟩)
    (h_NoRule_ : PySem.W.codeIn K ic_NoRule "NoRule.__init__" = true)
    (m_NoRule_ : PySem.W.keepIn K (.ref i_NoRule) = true)
    {nm_TooLong q_TooLong : Str} {N_TooLong i_TooLong : Addr} {bs_TooLong : List Value} {sn_TooLong : List Str} {sub_TooLong : List Value} {ab_TooLong : Bool} {col_TooLong : Option Bool} {dd_TooLong : Option Addr} {k0_TooLong k1_TooLong k2_TooLong k3_TooLong k5_TooLong : Option Value}
    (l_TooLong : K.lookup c_TooLong = some (excClassObj nm_TooLong q_TooLong c_TooLong N_TooLong bs_TooLong [.ref c_LoftError, .type "ValueError", .type "Exception", .type "BaseException", .type "object"] true sn_TooLong sub_TooLong ab_TooLong col_TooLong dd_TooLong k0_TooLong k1_TooLong k2_TooLong k3_TooLong k5_TooLong "ValueError.__new__"))
    (s_TooLong : PySem.W.findIn K (.ref c_TooLong) "__setattr__" = some (some (.builtin "object.__setattr__")))
    (e_TooLong : PySem.W.subIn K (.ref c_TooLong) (.type "BaseException") = some true)
    (t_TooLong : PySem.W.typeIn K (.ref c_TooLong) = some (.type "type"))
    (p_TooLong : PySem.W.keepIn K (.ref c_TooLong) = true)
    (i_TooLong_ : PySem.W.findIn K (.ref c_TooLong) "__init__" = some (some (.ref i_TooLong)))
    (j_TooLong : PySem.W.typeIn K (.ref i_TooLong) = some (.type "function"))
    (f_TooLong_number : PySem.W.findIn K (.ref c_TooLong) "number" = some none)
    {io_TooLong ik_TooLong id_TooLong ip_TooLong ic_TooLong it_TooLong : Value} {iod_TooLong ia_TooLong : Option Addr} {is_TooLong : Array (Option Value)}
    (g_TooLong : K.lookup i_TooLong = some ⟨io_TooLong, iod_TooLong, .func (PySem.W.fnOf "__init__" "TooLong.__init__" (defArgs s_ini_TooLong) (defBody s_ini_TooLong) (defScope s_ini_TooLong) .none ik_TooLong id_TooLong ip_TooLong ia_TooLong ic_TooLong it_TooLong), is_TooLong⟩)
    (h_TooLong_ : PySem.W.codeIn K ic_TooLong "TooLong.__init__" = true)
    (m_TooLong_ : PySem.W.keepIn K (.ref i_TooLong) = true)
    (yxxcf_NoFit_ : xcB K c_NoFit [] = true)
    (yxxcf_NoRule_ : xcB K c_NoRule [] = true)
    (yxxcf_Nought_ : xcB K c_Nought [] = true)
    (yxxcf_TooLong_ : xcB K c_TooLong [] = true)
    (yxkit_Wrong_NoFit_False : PySem.W.kitOne K (.ref c_NoFit) (.ref c_Wrong) = some false)
    (yxkit_Wrong_NoRule_False : PySem.W.kitOne K (.ref c_NoRule) (.ref c_Wrong) = some false)
    (yxkit_Wrong_Nought_False : PySem.W.kitOne K (.ref c_Nought) (.ref c_Wrong) = some false)
    (yxkit_Wrong_TooLong_False : PySem.W.kitOne K (.ref c_TooLong) (.ref c_Wrong) = some false)
    (yxkit_NoFit_NoFit_True : PySem.W.kitOne K (.ref c_NoFit) (.ref c_NoFit) = some true)
    (yxkit_NoFit_NoRule_False : PySem.W.kitOne K (.ref c_NoRule) (.ref c_NoFit) = some false)
    (yxkit_NoFit_Nought_False : PySem.W.kitOne K (.ref c_Nought) (.ref c_NoFit) = some false)
    (yxkit_NoFit_TooLong_False : PySem.W.kitOne K (.ref c_TooLong) (.ref c_NoFit) = some false)
    (yxkit_NoShape_NoFit_False : PySem.W.kitOne K (.ref c_NoFit) (.ref c_NoShape) = some false)
    (yxkit_NoShape_NoRule_False : PySem.W.kitOne K (.ref c_NoRule) (.ref c_NoShape) = some false)
    (yxkit_NoShape_Nought_False : PySem.W.kitOne K (.ref c_Nought) (.ref c_NoShape) = some false)
    (yxkit_NoShape_TooLong_False : PySem.W.kitOne K (.ref c_TooLong) (.ref c_NoShape) = some false)
    (yxkit_NoRow_NoFit_False : PySem.W.kitOne K (.ref c_NoFit) (.ref c_NoRow) = some false)
    (yxkit_NoRow_NoRule_False : PySem.W.kitOne K (.ref c_NoRule) (.ref c_NoRow) = some false)
    (yxkit_NoRow_Nought_False : PySem.W.kitOne K (.ref c_Nought) (.ref c_NoRow) = some false)
    (yxkit_NoRow_TooLong_False : PySem.W.kitOne K (.ref c_TooLong) (.ref c_NoRow) = some false)
    (yxkit_NoTable_NoFit_False : PySem.W.kitOne K (.ref c_NoFit) (.ref c_NoTable) = some false)
    (yxkit_NoTable_NoRule_False : PySem.W.kitOne K (.ref c_NoRule) (.ref c_NoTable) = some false)
    (yxkit_NoTable_Nought_False : PySem.W.kitOne K (.ref c_Nought) (.ref c_NoTable) = some false)
    (yxkit_NoTable_TooLong_False : PySem.W.kitOne K (.ref c_TooLong) (.ref c_NoTable) = some false)
    (yxkit_TooLong_NoFit_False : PySem.W.kitOne K (.ref c_NoFit) (.ref c_TooLong) = some false)
    (yxkit_TooLong_NoRule_False : PySem.W.kitOne K (.ref c_NoRule) (.ref c_TooLong) = some false)
    (yxkit_TooLong_Nought_False : PySem.W.kitOne K (.ref c_Nought) (.ref c_TooLong) = some false)
    (yxkit_TooLong_TooLong_True : PySem.W.kitOne K (.ref c_TooLong) (.ref c_TooLong) = some true)
    (yxkit_BadLine_NoFit_False : PySem.W.kitOne K (.ref c_NoFit) (.ref c_BadLine) = some false)
    (yxkit_BadLine_NoRule_False : PySem.W.kitOne K (.ref c_NoRule) (.ref c_BadLine) = some false)
    (yxkit_BadLine_Nought_False : PySem.W.kitOne K (.ref c_Nought) (.ref c_BadLine) = some false)
    (yxkit_BadLine_TooLong_False : PySem.W.kitOne K (.ref c_TooLong) (.ref c_BadLine) = some false)
    (yxkit_NoDeed_NoFit_False : PySem.W.kitOne K (.ref c_NoFit) (.ref c_NoDeed) = some false)
    (yxkit_NoDeed_NoRule_False : PySem.W.kitOne K (.ref c_NoRule) (.ref c_NoDeed) = some false)
    (yxkit_NoDeed_Nought_False : PySem.W.kitOne K (.ref c_Nought) (.ref c_NoDeed) = some false)
    (yxkit_NoDeed_TooLong_False : PySem.W.kitOne K (.ref c_TooLong) (.ref c_NoDeed) = some false)
    (yxkit_NoRule_NoFit_False : PySem.W.kitOne K (.ref c_NoFit) (.ref c_NoRule) = some false)
    (yxkit_NoRule_NoRule_True : PySem.W.kitOne K (.ref c_NoRule) (.ref c_NoRule) = some true)
    (yxkit_NoRule_Nought_False : PySem.W.kitOne K (.ref c_Nought) (.ref c_NoRule) = some false)
    (yxkit_NoRule_TooLong_False : PySem.W.kitOne K (.ref c_TooLong) (.ref c_NoRule) = some false)
    (yxkit_NoText_NoFit_False : PySem.W.kitOne K (.ref c_NoFit) (.ref c_NoText) = some false)
    (yxkit_NoText_NoRule_False : PySem.W.kitOne K (.ref c_NoRule) (.ref c_NoText) = some false)
    (yxkit_NoText_Nought_False : PySem.W.kitOne K (.ref c_Nought) (.ref c_NoText) = some false)
    (yxkit_NoText_TooLong_False : PySem.W.kitOne K (.ref c_TooLong) (.ref c_NoText) = some false)
    (yxkit_NoName_NoFit_False : PySem.W.kitOne K (.ref c_NoFit) (.ref c_NoName) = some false)
    (yxkit_NoName_NoRule_False : PySem.W.kitOne K (.ref c_NoRule) (.ref c_NoName) = some false)
    (yxkit_NoName_Nought_False : PySem.W.kitOne K (.ref c_Nought) (.ref c_NoName) = some false)
    (yxkit_NoName_TooLong_False : PySem.W.kitOne K (.ref c_TooLong) (.ref c_NoName) = some false)
    (yxkit_Unlike_NoFit_False : PySem.W.kitOne K (.ref c_NoFit) (.ref c_Unlike) = some false)
    (yxkit_Unlike_NoRule_False : PySem.W.kitOne K (.ref c_NoRule) (.ref c_Unlike) = some false)
    (yxkit_Unlike_Nought_False : PySem.W.kitOne K (.ref c_Nought) (.ref c_Unlike) = some false)
    (yxkit_Unlike_TooLong_False : PySem.W.kitOne K (.ref c_TooLong) (.ref c_Unlike) = some false)
    (yxkit_Nought_NoFit_False : PySem.W.kitOne K (.ref c_NoFit) (.ref c_Nought) = some false)
    (yxkit_Nought_NoRule_False : PySem.W.kitOne K (.ref c_NoRule) (.ref c_Nought) = some false)
    (yxkit_Nought_Nought_True : PySem.W.kitOne K (.ref c_Nought) (.ref c_Nought) = some true)
    (yxkit_Nought_TooLong_False : PySem.W.kitOne K (.ref c_TooLong) (.ref c_Nought) = some false)
    (yxkit_NothingDone_NoFit_False : PySem.W.kitOne K (.ref c_NoFit) (.ref c_NothingDone) = some false)
    (yxkit_NothingDone_NoRule_False : PySem.W.kitOne K (.ref c_NoRule) (.ref c_NothingDone) = some false)
    (yxkit_NothingDone_Nought_False : PySem.W.kitOne K (.ref c_Nought) (.ref c_NothingDone) = some false)
    (yxkit_NothingDone_TooLong_False : PySem.W.kitOne K (.ref c_TooLong) (.ref c_NothingDone) = some false)
    (yxkit_NoLine_NoFit_False : PySem.W.kitOne K (.ref c_NoFit) (.ref c_NoLine) = some false)
    (yxkit_NoLine_NoRule_False : PySem.W.kitOne K (.ref c_NoRule) (.ref c_NoLine) = some false)
    (yxkit_NoLine_Nought_False : PySem.W.kitOne K (.ref c_Nought) (.ref c_NoLine) = some false)
    (yxkit_NoLine_TooLong_False : PySem.W.kitOne K (.ref c_TooLong) (.ref c_NoLine) = some false)
    (yxkib_ValueError_NoFit : PySem.W.kitOne K (.ref c_NoFit) (.type "ValueError") = some true)
    (yxkib_ValueError_NoRule : PySem.W.kitOne K (.ref c_NoRule) (.type "ValueError") = some true)
    (yxkib_ValueError_Nought : PySem.W.kitOne K (.ref c_Nought) (.type "ValueError") = some true)
    (yxkib_ValueError_TooLong : PySem.W.kitOne K (.ref c_TooLong) (.type "ValueError") = some true)
    (yxnog_ValueError : PySem.W.nsIn K mainGlobals "ValueError" = some none)
    (yxkit_LoftError_NoFit_True : PySem.W.kitOne K (.ref c_NoFit) (.ref c_LoftError) = some true)
    (yxkit_LoftError_NoRule_True : PySem.W.kitOne K (.ref c_NoRule) (.ref c_LoftError) = some true)
    (yxkit_LoftError_Nought_True : PySem.W.kitOne K (.ref c_Nought) (.ref c_LoftError) = some true)
    (yxkit_LoftError_TooLong_True : PySem.W.kitOne K (.ref c_TooLong) (.ref c_LoftError) = some true)
    (yxcl0_Nought1 : PySem.W.excIn K c_Nought [.type "ValueError", .type "Exception", .type "BaseException", .type "object"] "ValueError.__new__" = true)
    (yxcl0_Nought2 : PySem.W.keepIn K (.ref c_Nought) = true)
    (yxcl0_Nought3 : PySem.W.subIn K (.ref c_Nought) (.type "BaseException") = some true)
    (yxcl0_Nought4 : PySem.W.typeIn K (.ref c_Nought) = some (.type "type"))
    (yxext_TooLong_NoFit_False : PySem.W.exmOne K (.ref c_NoFit) (.ref c_TooLong) = some false)
    (yxext_NoFit_NoFit_True : PySem.W.exmOne K (.ref c_NoFit) (.ref c_NoFit) = some true)
    (yxext_TooLong_NoRule_False : PySem.W.exmOne K (.ref c_NoRule) (.ref c_TooLong) = some false)
    (yxext_NoFit_NoRule_False : PySem.W.exmOne K (.ref c_NoRule) (.ref c_NoFit) = some false)
    (yxext_TooLong_Nought_False : PySem.W.exmOne K (.ref c_Nought) (.ref c_TooLong) = some false)
    (yxext_NoFit_Nought_False : PySem.W.exmOne K (.ref c_Nought) (.ref c_NoFit) = some false)
    (yxext_TooLong_TooLong_True : PySem.W.exmOne K (.ref c_TooLong) (.ref c_TooLong) = some true)
    (yxext_NoFit_TooLong_False : PySem.W.exmOne K (.ref c_TooLong) (.ref c_NoFit) = some false)
    (yxxcf_NoFit_number : xcB K c_NoFit ["number"] = true)
    (yxxcf_TooLong_number : xcB K c_TooLong ["number"] = true)
    (yxext_Nought_NoRule_False : PySem.W.exmOne K (.ref c_NoRule) (.ref c_Nought) = some false)
    (yxext_Nought_Nought_True : PySem.W.exmOne K (.ref c_Nought) (.ref c_Nought) = some true)
    (yxext_NoRule_NoRule_True : PySem.W.exmOne K (.ref c_NoRule) (.ref c_NoRule) = some true)
    (yxxcf_NoRule_rule : xcB K c_NoRule ["rule"] = true)
    : ∃ fd : FuncData, (∀ (s : Shared) (u : Value), BindsTo s fd ⟨[u], []⟩ [("_law_script", u)]) ∧ ∀ base : Heap, K.In base → base.Ns mainGlobals mg → FnOk l.prog w K mg base (L2N.CX l.prog w) 18 fa fd ["_law_script"] (spF K mg 1 [] f_law76) := by
  have e := hfa.symm.trans (PySem.W.mg_of X G a25)
  cases e
  have B : Bn mg := ⟨PySem.W.mg_none_of X G z_len, PySem.W.mg_none_of X G z_range, PySem.W.mg_none_of X G z_abs, PySem.W.mg_none_of X G z_max, PySem.W.mg_none_of X G z_min, PySem.W.mg_none_of X G z_int, PySem.W.mg_none_of X G z_str, PySem.W.mg_none_of X G z_tuple, PySem.W.mg_none_of X G z_list, PySem.W.mg_none_of X G z_all, PySem.W.mg_none_of X G z_any, PySem.W.mg_none_of X G z_isinstance, PySem.W.mg_none_of X G z_divmod, PySem.W.mg_none_of X G z_sum, PySem.W.mg_none_of X G z_zip, PySem.W.mg_none_of X G z_enumerate, PySem.W.mg_none_of X G z_reversed, PySem.W.mg_none_of X G z_sorted, PySem.W.mg_none_of X G z_dict, PySem.W.mg_none_of X G z_set, PySem.W.mg_none_of X G z_bool⟩
  have c_MOST_FIGURES : Cst K mg "MOST_FIGURES" (.int 12) := cst_int (PySem.W.mg_of X G qa_MOST_FIGURES)
  have c_BOUND : Cst K mg "BOUND" (.int 1000000000000) := cst_int (PySem.W.mg_of X G qa_BOUND)
  have c_RULES : Cst K mg "RULES" (.tup [(.str "cut"), (.str "up"), (.str "half"), (.str "even"), (.str "floor"), (.str "ceil")]) := cst_tup (PySem.W.mg_of X G qa_RULES) ql_RULES qe_RULES qz_RULES
  have F0 := fun_mk (st := s_lmixed) l0 c0 k0
  have b0 := F0.binds (ps := ["_law_cell_here", "_law_k", "_law_salt"]) fun _ _ _ _ _ _ us hl => match us, hl with | [_, _, _], _ => rfl
  have F1 := fun_mk (st := s_ldraws) l1 c1 k1
  have b1 := F1.binds (ps := ["_law_cell_here", "_law_salt", "_law_widths"]) fun _ _ _ _ _ _ us hl => match us, hl with | [_, _, _], _ => rfl
  have F2 := fun_mk (st := s_pfigures_of) l2 c2 k2
  have b2 := F2.binds (ps := ["number", "many"]) fun _ _ _ _ _ _ us hl => match us, hl with | [_, _], _ => rfl
  have F3 := fun_mk (st := s_pwhy_of) l3 c3 k3
  have b3 := F3.binds (ps := ["total"]) fun _ _ _ _ _ _ us hl => match us, hl with | [_], _ => rfl
  have F4 := fun_mk (st := s_psum_lines) l4 c4 k4
  have b4 := F4.binds (ps := ["first", "second"]) fun _ _ _ _ _ _ us hl => match us, hl with | [_, _], _ => rfl
  have F5 := fun_mk (st := s_pnumber_by) l5 c5 k5
  have b5 := F5.binds (ps := ["base", "digits"]) fun _ _ _ _ _ _ us hl => match us, hl with | [_, _], _ => rfl
  have F6 := fun_mk (st := s_ppower) l6 c6 k6
  have b6 := F6.binds (ps := ["base", "many"]) fun _ _ _ _ _ _ us hl => match us, hl with | [_, _], _ => rfl
  have F7 := fun_mk (st := s_psixes) l7 c7 k7
  have b7 := F7.binds (ps := ["figures", "one", "other"]) fun _ _ _ _ _ _ us hl => match us, hl with | [_, _, _], _ => rfl
  have F8 := fun_mk (st := s_pis_just) l8 c8 k8
  have b8 := F8.binds (ps := ["thing", "due"]) fun _ _ _ _ _ _ us hl => match us, hl with | [_, _], _ => rfl
  have F9 := fun_mk (st := s_psixes_hold) l9 c9 k9
  have b9 := F9.binds (ps := ["figures", "one", "other", "paper"]) fun _ _ _ _ _ _ us hl => match us, hl with | [_, _, _, _], _ => rfl
  have F10 := fun_mk (st := s_lsorts) l10 c10 k10
  have b10 := F10.binds (ps := ["_law_e"]) fun _ _ _ _ _ _ us hl => match us, hl with | [_], _ => rfl
  have F11 := fun_mk (st := s_ptried) l11 c11 k11
  have b11 := F11.binds (ps := ["ahead", "other"]) fun _ _ _ _ _ _ us hl => match us, hl with | [_, _], _ => rfl
  have F12 := fun_mk (st := s_ptries) l12 c12 k12
  have b12 := F12.binds (ps := ["one", "other"]) fun _ _ _ _ _ _ us hl => match us, hl with | [_, _], _ => rfl
  have F13 := fun_mk (st := s_ptries_hold) l13 c13 k13
  have b13 := F13.binds (ps := ["one", "other", "paper"]) fun _ _ _ _ _ _ us hl => match us, hl with | [_, _, _], _ => rfl
  have F14 := fun_mk (st := s_pone_more) l14 c14 k14
  have b14 := F14.binds (ps := ["size", "rest", "ten", "rule", "below"]) fun _ _ _ _ _ _ us hl => match us, hl with | [_, _, _, _, _], _ => rfl
  have F15 := fun_mk (st := s_prounded) l15 c15 k15
  have b15 := F15.binds (ps := ["number", "by", "rule"]) fun _ _ _ _ _ _ us hl => match us, hl with | [_, _, _], _ => rfl
  have F16 := fun_mk (st := s_prounding) l16 c16 k16
  have b16 := F16.binds (ps := ["number", "by", "rule"]) fun _ _ _ _ _ _ us hl => match us, hl with | [_, _, _], _ => rfl
  have F17 := fun_mk (st := s_prounding_holds) l17 c17 k17
  have b17 := F17.binds (ps := ["number", "by", "rule", "paper"]) fun _ _ _ _ _ _ us hl => match us, hl with | [_, _, _, _], _ => rfl
  have F18 := fun_mk (st := s_lrefused4) l18 c18 k18
  have b18 := F18.binds (ps := ["_law_which", "_law_given"]) fun _ _ _ _ _ _ us hl => match us, hl with | [_, _], _ => rfl
  have F19 := fun_mk (st := s_lrounding_refused) l19 c19 k19
  have b19 := F19.binds (ps := ["_law_amiss", "_law_ways", "_law_number", "_law_by", "_law_rule", "_law_far"]) fun _ _ _ _ _ _ us hl => match us, hl with | [_, _, _, _, _, _], _ => rfl
  have F20 := fun_mk (st := s_lcell) l20 c20 k20
  have b20 := F20.binds (ps := ["_law_script", "_law_k"]) fun _ _ _ _ _ _ us hl => match us, hl with | [_, _], _ => rfl
  have F21 := fun_mk (st := s_lpower) l21 c21 k21
  have b21 := F21.binds (ps := ["_law_base", "_law_many"]) fun _ _ _ _ _ _ us hl => match us, hl with | [_, _], _ => rfl
  have F22 := fun_mk (st := s_lbeyond) l22 c22 k22
  have b22 := F22.binds (ps := ["_law_most", "_law_way", "_law_far"]) fun _ _ _ _ _ _ us hl => match us, hl with | [_, _, _], _ => rfl
  have F23 := fun_mk (st := s_lsixes_refused) l23 c23 k23
  have b23 := F23.binds (ps := ["_law_amiss", "_law_ways", "_law_many", "_law_one", "_law_other", "_law_far"]) fun _ _ _ _ _ _ us hl => match us, hl with | [_, _, _, _, _, _], _ => rfl
  have F24 := fun_mk (st := s_ltries_refused) l24 c24 k24
  have b24 := F24.binds (ps := ["_law_amiss", "_law_ways", "_law_one", "_law_other", "_law_far"]) fun _ _ _ _ _ _ us hl => match us, hl with | [_, _, _, _, _], _ => rfl
  have F25 := fun_mk (st := s_law76) l25 c25 k25
  have b25 := F25.binds (ps := ["_law_script"]) fun _ _ _ _ _ _ us hl => match us, hl with | [_], _ => rfl
  refine ⟨PySem.W.fnOf "law" "law" (defArgs s_law76) (defBody s_law76) (defScope s_law76) .none kV25 dc25 pm25 an25 cd25 ct25, fun s v => .of_eq rfl, fun base _ _ => ?_⟩
  have B_LoftError : Bas K mg "LoftError" := ⟨c_LoftError, PySem.W.mg_of X G n_LoftError, b1_LoftError, b2_LoftError, b3_LoftError⟩
  have FI_NoFit := fun_mk (st := s_ini_NoFit) g_NoFit h_NoFit_ m_NoFit_
  have bI_NoFit := FI_NoFit.binds (ps := ["self", "number"]) fun _ _ _ _ _ _ us hl => match us, hl with | [_, _], _ => rfl
  have FI_NoRule := fun_mk (st := s_ini_NoRule) g_NoRule h_NoRule_ m_NoRule_
  have bI_NoRule := FI_NoRule.binds (ps := ["self", "rule"]) fun _ _ _ _ _ _ us hl => match us, hl with | [_, _], _ => rfl
  have FI_TooLong := fun_mk (st := s_ini_TooLong) g_TooLong h_TooLong_ m_TooLong_
  have bI_TooLong := FI_TooLong.binds (ps := ["self", "number"]) fun _ _ _ _ _ _ us hl => match us, hl with | [_, _], _ => rfl
  have xcl1_TooLong_number : Cl1 l.prog w K mg base "TooLong" "number" := ⟨_, _, _, _, owX_mk (PySem.W.mg_of X G n_TooLong) l_TooLong rfl s_TooLong e_TooLong t_TooLong p_TooLong i_TooLong_ j_TooLong, f_TooLong_number, ini_TooLong FI_TooLong B_LoftError, bI_TooLong⟩
  have xcl1_NoFit_number : Cl1 l.prog w K mg base "NoFit" "number" := ⟨_, _, _, _, owX_mk (PySem.W.mg_of X G n_NoFit) l_NoFit rfl s_NoFit e_NoFit t_NoFit p_NoFit i_NoFit_ j_NoFit, f_NoFit_number, ini_NoFit FI_NoFit B_LoftError, bI_NoFit⟩
  have xxcf_NoFit_ : XcF K mg [] "NoFit" := ⟨_, PySem.W.mg_of X G n_NoFit, yxxcf_NoFit_⟩
  have xxcf_NoRule_ : XcF K mg [] "NoRule" := ⟨_, PySem.W.mg_of X G n_NoRule, yxxcf_NoRule_⟩
  have xxcf_Nought_ : XcF K mg [] "Nought" := ⟨_, PySem.W.mg_of X G n_Nought, yxxcf_Nought_⟩
  have xxcf_TooLong_ : XcF K mg [] "TooLong" := ⟨_, PySem.W.mg_of X G n_TooLong, yxxcf_TooLong_⟩
  have xkit_Wrong_NoFit_False : KiT K mg "Wrong" "NoFit" false := ⟨_, _, PySem.W.mg_of X G n_NoFit, PySem.W.mg_of X G n_Wrong, yxkit_Wrong_NoFit_False⟩
  have xkit_Wrong_NoRule_False : KiT K mg "Wrong" "NoRule" false := ⟨_, _, PySem.W.mg_of X G n_NoRule, PySem.W.mg_of X G n_Wrong, yxkit_Wrong_NoRule_False⟩
  have xkit_Wrong_Nought_False : KiT K mg "Wrong" "Nought" false := ⟨_, _, PySem.W.mg_of X G n_Nought, PySem.W.mg_of X G n_Wrong, yxkit_Wrong_Nought_False⟩
  have xkit_Wrong_TooLong_False : KiT K mg "Wrong" "TooLong" false := ⟨_, _, PySem.W.mg_of X G n_TooLong, PySem.W.mg_of X G n_Wrong, yxkit_Wrong_TooLong_False⟩
  have xcls_Wrong : ∃ D, mg "Wrong" = some (.ref D) := ⟨_, PySem.W.mg_of X G n_Wrong⟩
  have xkit_NoFit_NoFit_True : KiT K mg "NoFit" "NoFit" true := ⟨_, _, PySem.W.mg_of X G n_NoFit, PySem.W.mg_of X G n_NoFit, yxkit_NoFit_NoFit_True⟩
  have xkit_NoFit_NoRule_False : KiT K mg "NoFit" "NoRule" false := ⟨_, _, PySem.W.mg_of X G n_NoRule, PySem.W.mg_of X G n_NoFit, yxkit_NoFit_NoRule_False⟩
  have xkit_NoFit_Nought_False : KiT K mg "NoFit" "Nought" false := ⟨_, _, PySem.W.mg_of X G n_Nought, PySem.W.mg_of X G n_NoFit, yxkit_NoFit_Nought_False⟩
  have xkit_NoFit_TooLong_False : KiT K mg "NoFit" "TooLong" false := ⟨_, _, PySem.W.mg_of X G n_TooLong, PySem.W.mg_of X G n_NoFit, yxkit_NoFit_TooLong_False⟩
  have xcls_NoFit : ∃ D, mg "NoFit" = some (.ref D) := ⟨_, PySem.W.mg_of X G n_NoFit⟩
  have xkit_NoShape_NoFit_False : KiT K mg "NoShape" "NoFit" false := ⟨_, _, PySem.W.mg_of X G n_NoFit, PySem.W.mg_of X G n_NoShape, yxkit_NoShape_NoFit_False⟩
  have xkit_NoShape_NoRule_False : KiT K mg "NoShape" "NoRule" false := ⟨_, _, PySem.W.mg_of X G n_NoRule, PySem.W.mg_of X G n_NoShape, yxkit_NoShape_NoRule_False⟩
  have xkit_NoShape_Nought_False : KiT K mg "NoShape" "Nought" false := ⟨_, _, PySem.W.mg_of X G n_Nought, PySem.W.mg_of X G n_NoShape, yxkit_NoShape_Nought_False⟩
  have xkit_NoShape_TooLong_False : KiT K mg "NoShape" "TooLong" false := ⟨_, _, PySem.W.mg_of X G n_TooLong, PySem.W.mg_of X G n_NoShape, yxkit_NoShape_TooLong_False⟩
  have xcls_NoShape : ∃ D, mg "NoShape" = some (.ref D) := ⟨_, PySem.W.mg_of X G n_NoShape⟩
  have xkit_NoRow_NoFit_False : KiT K mg "NoRow" "NoFit" false := ⟨_, _, PySem.W.mg_of X G n_NoFit, PySem.W.mg_of X G n_NoRow, yxkit_NoRow_NoFit_False⟩
  have xkit_NoRow_NoRule_False : KiT K mg "NoRow" "NoRule" false := ⟨_, _, PySem.W.mg_of X G n_NoRule, PySem.W.mg_of X G n_NoRow, yxkit_NoRow_NoRule_False⟩
  have xkit_NoRow_Nought_False : KiT K mg "NoRow" "Nought" false := ⟨_, _, PySem.W.mg_of X G n_Nought, PySem.W.mg_of X G n_NoRow, yxkit_NoRow_Nought_False⟩
  have xkit_NoRow_TooLong_False : KiT K mg "NoRow" "TooLong" false := ⟨_, _, PySem.W.mg_of X G n_TooLong, PySem.W.mg_of X G n_NoRow, yxkit_NoRow_TooLong_False⟩
  have xcls_NoRow : ∃ D, mg "NoRow" = some (.ref D) := ⟨_, PySem.W.mg_of X G n_NoRow⟩
  have xkit_NoTable_NoFit_False : KiT K mg "NoTable" "NoFit" false := ⟨_, _, PySem.W.mg_of X G n_NoFit, PySem.W.mg_of X G n_NoTable, yxkit_NoTable_NoFit_False⟩
  have xkit_NoTable_NoRule_False : KiT K mg "NoTable" "NoRule" false := ⟨_, _, PySem.W.mg_of X G n_NoRule, PySem.W.mg_of X G n_NoTable, yxkit_NoTable_NoRule_False⟩
  have xkit_NoTable_Nought_False : KiT K mg "NoTable" "Nought" false := ⟨_, _, PySem.W.mg_of X G n_Nought, PySem.W.mg_of X G n_NoTable, yxkit_NoTable_Nought_False⟩
  have xkit_NoTable_TooLong_False : KiT K mg "NoTable" "TooLong" false := ⟨_, _, PySem.W.mg_of X G n_TooLong, PySem.W.mg_of X G n_NoTable, yxkit_NoTable_TooLong_False⟩
  have xcls_NoTable : ∃ D, mg "NoTable" = some (.ref D) := ⟨_, PySem.W.mg_of X G n_NoTable⟩
  have xkit_TooLong_NoFit_False : KiT K mg "TooLong" "NoFit" false := ⟨_, _, PySem.W.mg_of X G n_NoFit, PySem.W.mg_of X G n_TooLong, yxkit_TooLong_NoFit_False⟩
  have xkit_TooLong_NoRule_False : KiT K mg "TooLong" "NoRule" false := ⟨_, _, PySem.W.mg_of X G n_NoRule, PySem.W.mg_of X G n_TooLong, yxkit_TooLong_NoRule_False⟩
  have xkit_TooLong_Nought_False : KiT K mg "TooLong" "Nought" false := ⟨_, _, PySem.W.mg_of X G n_Nought, PySem.W.mg_of X G n_TooLong, yxkit_TooLong_Nought_False⟩
  have xkit_TooLong_TooLong_True : KiT K mg "TooLong" "TooLong" true := ⟨_, _, PySem.W.mg_of X G n_TooLong, PySem.W.mg_of X G n_TooLong, yxkit_TooLong_TooLong_True⟩
  have xcls_TooLong : ∃ D, mg "TooLong" = some (.ref D) := ⟨_, PySem.W.mg_of X G n_TooLong⟩
  have xkit_BadLine_NoFit_False : KiT K mg "BadLine" "NoFit" false := ⟨_, _, PySem.W.mg_of X G n_NoFit, PySem.W.mg_of X G n_BadLine, yxkit_BadLine_NoFit_False⟩
  have xkit_BadLine_NoRule_False : KiT K mg "BadLine" "NoRule" false := ⟨_, _, PySem.W.mg_of X G n_NoRule, PySem.W.mg_of X G n_BadLine, yxkit_BadLine_NoRule_False⟩
  have xkit_BadLine_Nought_False : KiT K mg "BadLine" "Nought" false := ⟨_, _, PySem.W.mg_of X G n_Nought, PySem.W.mg_of X G n_BadLine, yxkit_BadLine_Nought_False⟩
  have xkit_BadLine_TooLong_False : KiT K mg "BadLine" "TooLong" false := ⟨_, _, PySem.W.mg_of X G n_TooLong, PySem.W.mg_of X G n_BadLine, yxkit_BadLine_TooLong_False⟩
  have xcls_BadLine : ∃ D, mg "BadLine" = some (.ref D) := ⟨_, PySem.W.mg_of X G n_BadLine⟩
  have xkit_NoDeed_NoFit_False : KiT K mg "NoDeed" "NoFit" false := ⟨_, _, PySem.W.mg_of X G n_NoFit, PySem.W.mg_of X G n_NoDeed, yxkit_NoDeed_NoFit_False⟩
  have xkit_NoDeed_NoRule_False : KiT K mg "NoDeed" "NoRule" false := ⟨_, _, PySem.W.mg_of X G n_NoRule, PySem.W.mg_of X G n_NoDeed, yxkit_NoDeed_NoRule_False⟩
  have xkit_NoDeed_Nought_False : KiT K mg "NoDeed" "Nought" false := ⟨_, _, PySem.W.mg_of X G n_Nought, PySem.W.mg_of X G n_NoDeed, yxkit_NoDeed_Nought_False⟩
  have xkit_NoDeed_TooLong_False : KiT K mg "NoDeed" "TooLong" false := ⟨_, _, PySem.W.mg_of X G n_TooLong, PySem.W.mg_of X G n_NoDeed, yxkit_NoDeed_TooLong_False⟩
  have xcls_NoDeed : ∃ D, mg "NoDeed" = some (.ref D) := ⟨_, PySem.W.mg_of X G n_NoDeed⟩
  have xkit_NoRule_NoFit_False : KiT K mg "NoRule" "NoFit" false := ⟨_, _, PySem.W.mg_of X G n_NoFit, PySem.W.mg_of X G n_NoRule, yxkit_NoRule_NoFit_False⟩
  have xkit_NoRule_NoRule_True : KiT K mg "NoRule" "NoRule" true := ⟨_, _, PySem.W.mg_of X G n_NoRule, PySem.W.mg_of X G n_NoRule, yxkit_NoRule_NoRule_True⟩
  have xkit_NoRule_Nought_False : KiT K mg "NoRule" "Nought" false := ⟨_, _, PySem.W.mg_of X G n_Nought, PySem.W.mg_of X G n_NoRule, yxkit_NoRule_Nought_False⟩
  have xkit_NoRule_TooLong_False : KiT K mg "NoRule" "TooLong" false := ⟨_, _, PySem.W.mg_of X G n_TooLong, PySem.W.mg_of X G n_NoRule, yxkit_NoRule_TooLong_False⟩
  have xcls_NoRule : ∃ D, mg "NoRule" = some (.ref D) := ⟨_, PySem.W.mg_of X G n_NoRule⟩
  have xkit_NoText_NoFit_False : KiT K mg "NoText" "NoFit" false := ⟨_, _, PySem.W.mg_of X G n_NoFit, PySem.W.mg_of X G n_NoText, yxkit_NoText_NoFit_False⟩
  have xkit_NoText_NoRule_False : KiT K mg "NoText" "NoRule" false := ⟨_, _, PySem.W.mg_of X G n_NoRule, PySem.W.mg_of X G n_NoText, yxkit_NoText_NoRule_False⟩
  have xkit_NoText_Nought_False : KiT K mg "NoText" "Nought" false := ⟨_, _, PySem.W.mg_of X G n_Nought, PySem.W.mg_of X G n_NoText, yxkit_NoText_Nought_False⟩
  have xkit_NoText_TooLong_False : KiT K mg "NoText" "TooLong" false := ⟨_, _, PySem.W.mg_of X G n_TooLong, PySem.W.mg_of X G n_NoText, yxkit_NoText_TooLong_False⟩
  have xcls_NoText : ∃ D, mg "NoText" = some (.ref D) := ⟨_, PySem.W.mg_of X G n_NoText⟩
  have xkit_NoName_NoFit_False : KiT K mg "NoName" "NoFit" false := ⟨_, _, PySem.W.mg_of X G n_NoFit, PySem.W.mg_of X G n_NoName, yxkit_NoName_NoFit_False⟩
  have xkit_NoName_NoRule_False : KiT K mg "NoName" "NoRule" false := ⟨_, _, PySem.W.mg_of X G n_NoRule, PySem.W.mg_of X G n_NoName, yxkit_NoName_NoRule_False⟩
  have xkit_NoName_Nought_False : KiT K mg "NoName" "Nought" false := ⟨_, _, PySem.W.mg_of X G n_Nought, PySem.W.mg_of X G n_NoName, yxkit_NoName_Nought_False⟩
  have xkit_NoName_TooLong_False : KiT K mg "NoName" "TooLong" false := ⟨_, _, PySem.W.mg_of X G n_TooLong, PySem.W.mg_of X G n_NoName, yxkit_NoName_TooLong_False⟩
  have xcls_NoName : ∃ D, mg "NoName" = some (.ref D) := ⟨_, PySem.W.mg_of X G n_NoName⟩
  have xkit_Unlike_NoFit_False : KiT K mg "Unlike" "NoFit" false := ⟨_, _, PySem.W.mg_of X G n_NoFit, PySem.W.mg_of X G n_Unlike, yxkit_Unlike_NoFit_False⟩
  have xkit_Unlike_NoRule_False : KiT K mg "Unlike" "NoRule" false := ⟨_, _, PySem.W.mg_of X G n_NoRule, PySem.W.mg_of X G n_Unlike, yxkit_Unlike_NoRule_False⟩
  have xkit_Unlike_Nought_False : KiT K mg "Unlike" "Nought" false := ⟨_, _, PySem.W.mg_of X G n_Nought, PySem.W.mg_of X G n_Unlike, yxkit_Unlike_Nought_False⟩
  have xkit_Unlike_TooLong_False : KiT K mg "Unlike" "TooLong" false := ⟨_, _, PySem.W.mg_of X G n_TooLong, PySem.W.mg_of X G n_Unlike, yxkit_Unlike_TooLong_False⟩
  have xcls_Unlike : ∃ D, mg "Unlike" = some (.ref D) := ⟨_, PySem.W.mg_of X G n_Unlike⟩
  have xkit_Nought_NoFit_False : KiT K mg "Nought" "NoFit" false := ⟨_, _, PySem.W.mg_of X G n_NoFit, PySem.W.mg_of X G n_Nought, yxkit_Nought_NoFit_False⟩
  have xkit_Nought_NoRule_False : KiT K mg "Nought" "NoRule" false := ⟨_, _, PySem.W.mg_of X G n_NoRule, PySem.W.mg_of X G n_Nought, yxkit_Nought_NoRule_False⟩
  have xkit_Nought_Nought_True : KiT K mg "Nought" "Nought" true := ⟨_, _, PySem.W.mg_of X G n_Nought, PySem.W.mg_of X G n_Nought, yxkit_Nought_Nought_True⟩
  have xkit_Nought_TooLong_False : KiT K mg "Nought" "TooLong" false := ⟨_, _, PySem.W.mg_of X G n_TooLong, PySem.W.mg_of X G n_Nought, yxkit_Nought_TooLong_False⟩
  have xcls_Nought : ∃ D, mg "Nought" = some (.ref D) := ⟨_, PySem.W.mg_of X G n_Nought⟩
  have xkit_NothingDone_NoFit_False : KiT K mg "NothingDone" "NoFit" false := ⟨_, _, PySem.W.mg_of X G n_NoFit, PySem.W.mg_of X G n_NothingDone, yxkit_NothingDone_NoFit_False⟩
  have xkit_NothingDone_NoRule_False : KiT K mg "NothingDone" "NoRule" false := ⟨_, _, PySem.W.mg_of X G n_NoRule, PySem.W.mg_of X G n_NothingDone, yxkit_NothingDone_NoRule_False⟩
  have xkit_NothingDone_Nought_False : KiT K mg "NothingDone" "Nought" false := ⟨_, _, PySem.W.mg_of X G n_Nought, PySem.W.mg_of X G n_NothingDone, yxkit_NothingDone_Nought_False⟩
  have xkit_NothingDone_TooLong_False : KiT K mg "NothingDone" "TooLong" false := ⟨_, _, PySem.W.mg_of X G n_TooLong, PySem.W.mg_of X G n_NothingDone, yxkit_NothingDone_TooLong_False⟩
  have xcls_NothingDone : ∃ D, mg "NothingDone" = some (.ref D) := ⟨_, PySem.W.mg_of X G n_NothingDone⟩
  have xkit_NoLine_NoFit_False : KiT K mg "NoLine" "NoFit" false := ⟨_, _, PySem.W.mg_of X G n_NoFit, PySem.W.mg_of X G n_NoLine, yxkit_NoLine_NoFit_False⟩
  have xkit_NoLine_NoRule_False : KiT K mg "NoLine" "NoRule" false := ⟨_, _, PySem.W.mg_of X G n_NoRule, PySem.W.mg_of X G n_NoLine, yxkit_NoLine_NoRule_False⟩
  have xkit_NoLine_Nought_False : KiT K mg "NoLine" "Nought" false := ⟨_, _, PySem.W.mg_of X G n_Nought, PySem.W.mg_of X G n_NoLine, yxkit_NoLine_Nought_False⟩
  have xkit_NoLine_TooLong_False : KiT K mg "NoLine" "TooLong" false := ⟨_, _, PySem.W.mg_of X G n_TooLong, PySem.W.mg_of X G n_NoLine, yxkit_NoLine_TooLong_False⟩
  have xcls_NoLine : ∃ D, mg "NoLine" = some (.ref D) := ⟨_, PySem.W.mg_of X G n_NoLine⟩
  have xkib_ValueError_NoFit : KiB K mg "ValueError" "NoFit" := ⟨_, PySem.W.mg_of X G n_NoFit, yxkib_ValueError_NoFit⟩
  have xkib_ValueError_NoRule : KiB K mg "ValueError" "NoRule" := ⟨_, PySem.W.mg_of X G n_NoRule, yxkib_ValueError_NoRule⟩
  have xkib_ValueError_Nought : KiB K mg "ValueError" "Nought" := ⟨_, PySem.W.mg_of X G n_Nought, yxkib_ValueError_Nought⟩
  have xkib_ValueError_TooLong : KiB K mg "ValueError" "TooLong" := ⟨_, PySem.W.mg_of X G n_TooLong, yxkib_ValueError_TooLong⟩
  have xnog_ValueError : mg "ValueError" = none := PySem.W.mg_none_of X G yxnog_ValueError
  have xkit_LoftError_NoFit_True : KiT K mg "LoftError" "NoFit" true := ⟨_, _, PySem.W.mg_of X G n_NoFit, PySem.W.mg_of X G n_LoftError, yxkit_LoftError_NoFit_True⟩
  have xkit_LoftError_NoRule_True : KiT K mg "LoftError" "NoRule" true := ⟨_, _, PySem.W.mg_of X G n_NoRule, PySem.W.mg_of X G n_LoftError, yxkit_LoftError_NoRule_True⟩
  have xkit_LoftError_Nought_True : KiT K mg "LoftError" "Nought" true := ⟨_, _, PySem.W.mg_of X G n_Nought, PySem.W.mg_of X G n_LoftError, yxkit_LoftError_Nought_True⟩
  have xkit_LoftError_TooLong_True : KiT K mg "LoftError" "TooLong" true := ⟨_, _, PySem.W.mg_of X G n_TooLong, PySem.W.mg_of X G n_LoftError, yxkit_LoftError_TooLong_True⟩
  have xcls_LoftError : ∃ D, mg "LoftError" = some (.ref D) := ⟨_, PySem.W.mg_of X G n_LoftError⟩
  have xcl0_Nought : Cl0 K mg "Nought" := ⟨_, PySem.W.mg_of X G n_Nought, yxcl0_Nought1, yxcl0_Nought2, yxcl0_Nought3, yxcl0_Nought4⟩
  have xcl1_NoRule_rule : Cl1 l.prog w K mg base "NoRule" "rule" := ⟨_, _, _, _, owX_mk (PySem.W.mg_of X G n_NoRule) l_NoRule rfl s_NoRule e_NoRule t_NoRule p_NoRule i_NoRule_ j_NoRule, f_NoRule_rule, ini_NoRule FI_NoRule B_LoftError, bI_NoRule⟩
  have xext_TooLong_NoFit_False : ExT K mg "TooLong" "NoFit" false := ⟨_, _, PySem.W.mg_of X G n_NoFit, PySem.W.mg_of X G n_TooLong, yxext_TooLong_NoFit_False⟩
  have xext_NoFit_NoFit_True : ExT K mg "NoFit" "NoFit" true := ⟨_, _, PySem.W.mg_of X G n_NoFit, PySem.W.mg_of X G n_NoFit, yxext_NoFit_NoFit_True⟩
  have xext_TooLong_NoRule_False : ExT K mg "TooLong" "NoRule" false := ⟨_, _, PySem.W.mg_of X G n_NoRule, PySem.W.mg_of X G n_TooLong, yxext_TooLong_NoRule_False⟩
  have xext_NoFit_NoRule_False : ExT K mg "NoFit" "NoRule" false := ⟨_, _, PySem.W.mg_of X G n_NoRule, PySem.W.mg_of X G n_NoFit, yxext_NoFit_NoRule_False⟩
  have xext_TooLong_Nought_False : ExT K mg "TooLong" "Nought" false := ⟨_, _, PySem.W.mg_of X G n_Nought, PySem.W.mg_of X G n_TooLong, yxext_TooLong_Nought_False⟩
  have xext_NoFit_Nought_False : ExT K mg "NoFit" "Nought" false := ⟨_, _, PySem.W.mg_of X G n_Nought, PySem.W.mg_of X G n_NoFit, yxext_NoFit_Nought_False⟩
  have xext_TooLong_TooLong_True : ExT K mg "TooLong" "TooLong" true := ⟨_, _, PySem.W.mg_of X G n_TooLong, PySem.W.mg_of X G n_TooLong, yxext_TooLong_TooLong_True⟩
  have xext_NoFit_TooLong_False : ExT K mg "NoFit" "TooLong" false := ⟨_, _, PySem.W.mg_of X G n_TooLong, PySem.W.mg_of X G n_NoFit, yxext_NoFit_TooLong_False⟩
  have xxcf_NoFit_number : XcF K mg ["number"] "NoFit" := ⟨_, PySem.W.mg_of X G n_NoFit, yxxcf_NoFit_number⟩
  have xxcf_TooLong_number : XcF K mg ["number"] "TooLong" := ⟨_, PySem.W.mg_of X G n_TooLong, yxxcf_TooLong_number⟩
  have xext_Nought_NoRule_False : ExT K mg "Nought" "NoRule" false := ⟨_, _, PySem.W.mg_of X G n_NoRule, PySem.W.mg_of X G n_Nought, yxext_Nought_NoRule_False⟩
  have xext_Nought_Nought_True : ExT K mg "Nought" "Nought" true := ⟨_, _, PySem.W.mg_of X G n_Nought, PySem.W.mg_of X G n_Nought, yxext_Nought_Nought_True⟩
  have xext_NoRule_NoRule_True : ExT K mg "NoRule" "NoRule" true := ⟨_, _, PySem.W.mg_of X G n_NoRule, PySem.W.mg_of X G n_NoRule, yxext_NoRule_NoRule_True⟩
  have xxcf_NoRule_rule : XcF K mg ["rule"] "NoRule" := ⟨_, PySem.W.mg_of X G n_NoRule, yxxcf_NoRule_rule⟩
  have h_lmixed : Fd l.prog w K mg base "_law_mixed" 2 ["_law_cell_here", "_law_k", "_law_salt"] [] f_lmixed := ⟨_, _, ok_lmixed F0 B    , PySem.W.mg_of X G a0, k0, b0⟩
  have h_ldraws : Fd l.prog w K mg base "_law_draws" 4 ["_law_cell_here", "_law_salt", "_law_widths"] [] f_ldraws := ⟨_, _, ok_ldraws F1 B h_lmixed   , PySem.W.mg_of X G a1, k1, b1⟩
  have h_pfigures_of : Fd l.prog w K mg base "figures_of" 2 ["number", "many"] [] f_pfigures_of := ⟨_, _, ok_pfigures_of F2 B    , PySem.W.mg_of X G a2, k2, b2⟩
  have h_pwhy_of : Fd l.prog w K mg base "why_of" 2 ["total"] [] f_pwhy_of := ⟨_, _, ok_pwhy_of F3 B    , PySem.W.mg_of X G a3, k3, b3⟩
  have h_psum_lines : Fd l.prog w K mg base "sum_lines" 4 ["first", "second"] [] f_psum_lines := ⟨_, _, ok_psum_lines F4 B h_pwhy_of   , PySem.W.mg_of X G a4, k4, b4⟩
  have h_pnumber_by : Fd l.prog w K mg base "number_by" 2 ["base", "digits"] [] f_pnumber_by := ⟨_, _, ok_pnumber_by F5 B    , PySem.W.mg_of X G a5, k5, b5⟩
  have h_ppower : Fd l.prog w K mg base "power" 2 ["base", "many"] [] f_ppower := ⟨_, _, ok_ppower F6 B    , PySem.W.mg_of X G a6, k6, b6⟩
  have h_psixes : Fd l.prog w K mg base "sixes" 6 ["figures", "one", "other"] [] f_psixes := ⟨_, _, ok_psixes F7 B h_ppower h_pfigures_of h_psum_lines h_pnumber_by  xcl1_TooLong_number xcl1_NoFit_number c_MOST_FIGURES, PySem.W.mg_of X G a7, k7, b7⟩
  have h_pis_just : Fd l.prog w K mg base "is_just" 10 ["thing", "due"] [] f_pis_just := ⟨_, _, ok_pis_just F8 (PySem.W.mg_of X G a8) k8 b8 B     8, PySem.W.mg_of X G a8, k8, b8⟩
  have h_psixes_hold : Fd l.prog w K mg base "sixes_hold" 12 ["figures", "one", "other", "paper"] [] f_psixes_hold := ⟨_, _, ok_psixes_hold F9 B h_pis_just h_psixes   , PySem.W.mg_of X G a9, k9, b9⟩
  have h_lsorts : FdE l.prog w K mg base "_law_sorts" 2 "_law_e" ["NoFit", "NoRule", "Nought", "TooLong"] f_lsorts := ⟨_, _, ok_lsorts F10 B   xxcf_NoFit_ xxcf_NoRule_ xxcf_Nought_ xxcf_TooLong_ xkit_Wrong_NoFit_False xkit_Wrong_NoRule_False xkit_Wrong_Nought_False xkit_Wrong_TooLong_False xcls_Wrong xkit_NoFit_NoFit_True xkit_NoFit_NoRule_False xkit_NoFit_Nought_False xkit_NoFit_TooLong_False xcls_NoFit xkit_NoShape_NoFit_False xkit_NoShape_NoRule_False xkit_NoShape_Nought_False xkit_NoShape_TooLong_False xcls_NoShape xkit_NoRow_NoFit_False xkit_NoRow_NoRule_False xkit_NoRow_Nought_False xkit_NoRow_TooLong_False xcls_NoRow xkit_NoTable_NoFit_False xkit_NoTable_NoRule_False xkit_NoTable_Nought_False xkit_NoTable_TooLong_False xcls_NoTable xkit_TooLong_NoFit_False xkit_TooLong_NoRule_False xkit_TooLong_Nought_False xkit_TooLong_TooLong_True xcls_TooLong xkit_BadLine_NoFit_False xkit_BadLine_NoRule_False xkit_BadLine_Nought_False xkit_BadLine_TooLong_False xcls_BadLine xkit_NoDeed_NoFit_False xkit_NoDeed_NoRule_False xkit_NoDeed_Nought_False xkit_NoDeed_TooLong_False xcls_NoDeed xkit_NoRule_NoFit_False xkit_NoRule_NoRule_True xkit_NoRule_Nought_False xkit_NoRule_TooLong_False xcls_NoRule xkit_NoText_NoFit_False xkit_NoText_NoRule_False xkit_NoText_Nought_False xkit_NoText_TooLong_False xcls_NoText xkit_NoName_NoFit_False xkit_NoName_NoRule_False xkit_NoName_Nought_False xkit_NoName_TooLong_False xcls_NoName xkit_Unlike_NoFit_False xkit_Unlike_NoRule_False xkit_Unlike_Nought_False xkit_Unlike_TooLong_False xcls_Unlike xkit_Nought_NoFit_False xkit_Nought_NoRule_False xkit_Nought_Nought_True xkit_Nought_TooLong_False xcls_Nought xkit_NothingDone_NoFit_False xkit_NothingDone_NoRule_False xkit_NothingDone_Nought_False xkit_NothingDone_TooLong_False xcls_NothingDone xkit_NoLine_NoFit_False xkit_NoLine_NoRule_False xkit_NoLine_Nought_False xkit_NoLine_TooLong_False xcls_NoLine xkib_ValueError_NoFit xkib_ValueError_NoRule xkib_ValueError_Nought xkib_ValueError_TooLong xnog_ValueError xkit_LoftError_NoFit_True xkit_LoftError_NoRule_True xkit_LoftError_Nought_True xkit_LoftError_TooLong_True xcls_LoftError , PySem.W.mg_of X G a10, k10, b10⟩
  have h_ptried : Fd l.prog w K mg base "tried" 2 ["ahead", "other"] [] f_ptried := ⟨_, _, ok_ptried F11 B    , PySem.W.mg_of X G a11, k11, b11⟩
  have h_ptries : Fd l.prog w K mg base "tries" 4 ["one", "other"] [] f_ptries := ⟨_, _, ok_ptries F12 B h_pfigures_of h_ptried  xcl0_Nought xcl1_NoFit_number c_BOUND, PySem.W.mg_of X G a12, k12, b12⟩
  have h_ptries_hold : Fd l.prog w K mg base "tries_hold" 12 ["one", "other", "paper"] [] f_ptries_hold := ⟨_, _, ok_ptries_hold F13 B h_pis_just h_ptries   , PySem.W.mg_of X G a13, k13, b13⟩
  have h_pone_more : Fd l.prog w K mg base "one_more" 2 ["size", "rest", "ten", "rule", "below"] [] f_pone_more := ⟨_, _, ok_pone_more F14 B    , PySem.W.mg_of X G a14, k14, b14⟩
  have h_prounded : Fd l.prog w K mg base "rounded" 4 ["number", "by", "rule"] [] f_prounded := ⟨_, _, ok_prounded F15 B h_ppower h_pone_more  xcl1_NoRule_rule c_RULES, PySem.W.mg_of X G a15, k15, b15⟩
  have h_prounding : Fd l.prog w K mg base "rounding" 6 ["number", "by", "rule"] [] f_prounding := ⟨_, _, ok_prounding F16 B h_prounded h_ppower  xcl1_NoRule_rule xcl1_TooLong_number xcl1_NoFit_number c_RULES c_MOST_FIGURES c_BOUND, PySem.W.mg_of X G a16, k16, b16⟩
  have h_prounding_holds : Fd l.prog w K mg base "rounding_holds" 12 ["number", "by", "rule", "paper"] [] f_prounding_holds := ⟨_, _, ok_prounding_holds F17 B h_pis_just h_prounding   , PySem.W.mg_of X G a17, k17, b17⟩
  have h_lrefused4 : Fd l.prog w K mg base "_law_refused" 14 ["_law_which", "_law_given"] [] f_lrefused4 := ⟨_, _, ok_lrefused4 F18 B h_psixes h_psixes_hold h_ptries h_ptries_hold h_prounding h_prounding_holds h_lsorts  xext_TooLong_NoFit_False xext_NoFit_NoFit_True xext_TooLong_NoRule_False xext_NoFit_NoRule_False xext_TooLong_Nought_False xext_NoFit_Nought_False xext_TooLong_TooLong_True xext_NoFit_TooLong_False xcls_TooLong xcls_NoFit xxcf_NoFit_number xxcf_TooLong_number xext_Nought_NoRule_False xext_Nought_Nought_True xcls_Nought xxcf_Nought_ xext_NoRule_NoRule_True xcls_NoRule xxcf_NoRule_rule , PySem.W.mg_of X G a18, k18, b18⟩
  have h_lrounding_refused : Fd l.prog w K mg base "_law_rounding_refused" 16 ["_law_amiss", "_law_ways", "_law_number", "_law_by", "_law_rule", "_law_far"] [] f_lrounding_refused := ⟨_, _, ok_lrounding_refused F19 B h_lrefused4   , PySem.W.mg_of X G a19, k19, b19⟩
  have h_lcell : Fd l.prog w K mg base "_law_cell" 2 ["_law_script", "_law_k"] [] f_lcell := ⟨_, _, ok_lcell F20 B    , PySem.W.mg_of X G a20, k20, b20⟩
  have h_lpower : Fd l.prog w K mg base "_law_power" 2 ["_law_base", "_law_many"] [] f_lpower := ⟨_, _, ok_lpower F21 B    , PySem.W.mg_of X G a21, k21, b21⟩
  have h_lbeyond : Fd l.prog w K mg base "_law_beyond" 2 ["_law_most", "_law_way", "_law_far"] [] f_lbeyond := ⟨_, _, ok_lbeyond F22 B    , PySem.W.mg_of X G a22, k22, b22⟩
  have h_lsixes_refused : Fd l.prog w K mg base "_law_sixes_refused" 16 ["_law_amiss", "_law_ways", "_law_many", "_law_one", "_law_other", "_law_far"] [] f_lsixes_refused := ⟨_, _, ok_lsixes_refused F23 B h_lpower h_lbeyond h_lrefused4   , PySem.W.mg_of X G a23, k23, b23⟩
  have h_ltries_refused : Fd l.prog w K mg base "_law_tries_refused" 16 ["_law_amiss", "_law_ways", "_law_one", "_law_other", "_law_far"] [] f_ltries_refused := ⟨_, _, ok_ltries_refused F24 B h_lbeyond h_lrefused4   , PySem.W.mg_of X G a24, k24, b24⟩
  exact ok_law76 F25 B h_ldraws h_lcell h_lsixes_refused h_ltries_refused h_lrounding_refused   
end Tm
open PySem PySem.W PyProof.Rows in
set_option maxRecDepth 100000 in
set_option maxHeartbeats 0 in
theorem PySem.Challenge.cw_tensloft_k78_papers_refused_holds : PySem.Challenge.rw_tensloft_k78_papers_refused.Holds := by
  w_on; o_law; k_head; (case hw => w_witness2)
  k_fill
  refine Tm.walk_law (l := PySem.Challenge.rw_tensloft_k78_papers_refused) (f := Tm.f_law76) (x := "_law_script") (k := 18) rfl rfl ⟨rfl, by decide, by decide⟩ (fun w h Y => PySem.W.kIn_of Y) Tm.law_true ?F
  case F =>
    intro w mg fa h KX G hmg
    refine' Tm.all_mk KX G hmg ?a0 ?l0 ?c0 ?k0 ?a1 ?l1 ?c1 ?k1 ?a2 ?l2 ?c2 ?k2 ?a3 ?l3 ?c3 ?k3 ?a4 ?l4 ?c4 ?k4 ?a5 ?l5 ?c5 ?k5 ?a6 ?l6 ?c6 ?k6 ?a7 ?l7 ?c7 ?k7 ?a8 ?l8 ?c8 ?k8 ?a9 ?l9 ?c9 ?k9 ?a10 ?l10 ?c10 ?k10 ?a11 ?l11 ?c11 ?k11 ?a12 ?l12 ?c12 ?k12 ?a13 ?l13 ?c13 ?k13 ?a14 ?l14 ?c14 ?k14 ?a15 ?l15 ?c15 ?k15 ?a16 ?l16 ?c16 ?k16 ?a17 ?l17 ?c17 ?k17 ?a18 ?l18 ?c18 ?k18 ?a19 ?l19 ?c19 ?k19 ?a20 ?l20 ?c20 ?k20 ?a21 ?l21 ?c21 ?k21 ?a22 ?l22 ?c22 ?k22 ?a23 ?l23 ?c23 ?k23 ?a24 ?l24 ?c24 ?k24 ?a25 ?l25 ?c25 ?k25 ?z_len ?z_range ?z_abs ?z_max ?z_min ?z_int ?z_str ?z_tuple ?z_list ?z_all ?z_any ?z_isinstance ?z_divmod ?z_sum ?z_zip ?z_enumerate ?z_reversed ?z_sorted ?z_dict ?z_set ?z_bool ?qa_MOST_FIGURES ?qa_BOUND ?qa_RULES ?ql_RULES ?qe_RULES ?qz_RULES ?n_BadLine ?n_LoftError ?n_NoDeed ?n_NoFit ?n_NoLine ?n_NoName ?n_NoRow ?n_NoRule ?n_NoShape ?n_NoTable ?n_NoText ?n_NothingDone ?n_Nought ?n_TooLong ?n_Unlike ?n_Wrong ?b1_LoftError ?b2_LoftError ?b3_LoftError ?l_NoFit ?s_NoFit ?e_NoFit ?t_NoFit ?p_NoFit ?i_NoFit_ ?j_NoFit ?f_NoFit_number ?g_NoFit ?h_NoFit_ ?m_NoFit_ ?l_NoRule ?s_NoRule ?e_NoRule ?t_NoRule ?p_NoRule ?i_NoRule_ ?j_NoRule ?f_NoRule_rule ?g_NoRule ?h_NoRule_ ?m_NoRule_ ?l_TooLong ?s_TooLong ?e_TooLong ?t_TooLong ?p_TooLong ?i_TooLong_ ?j_TooLong ?f_TooLong_number ?g_TooLong ?h_TooLong_ ?m_TooLong_ ?yxxcf_NoFit_ ?yxxcf_NoRule_ ?yxxcf_Nought_ ?yxxcf_TooLong_ ?yxkit_Wrong_NoFit_False ?yxkit_Wrong_NoRule_False ?yxkit_Wrong_Nought_False ?yxkit_Wrong_TooLong_False ?yxkit_NoFit_NoFit_True ?yxkit_NoFit_NoRule_False ?yxkit_NoFit_Nought_False ?yxkit_NoFit_TooLong_False ?yxkit_NoShape_NoFit_False ?yxkit_NoShape_NoRule_False ?yxkit_NoShape_Nought_False ?yxkit_NoShape_TooLong_False ?yxkit_NoRow_NoFit_False ?yxkit_NoRow_NoRule_False ?yxkit_NoRow_Nought_False ?yxkit_NoRow_TooLong_False ?yxkit_NoTable_NoFit_False ?yxkit_NoTable_NoRule_False ?yxkit_NoTable_Nought_False ?yxkit_NoTable_TooLong_False ?yxkit_TooLong_NoFit_False ?yxkit_TooLong_NoRule_False ?yxkit_TooLong_Nought_False ?yxkit_TooLong_TooLong_True ?yxkit_BadLine_NoFit_False ?yxkit_BadLine_NoRule_False ?yxkit_BadLine_Nought_False ?yxkit_BadLine_TooLong_False ?yxkit_NoDeed_NoFit_False ?yxkit_NoDeed_NoRule_False ?yxkit_NoDeed_Nought_False ?yxkit_NoDeed_TooLong_False ?yxkit_NoRule_NoFit_False ?yxkit_NoRule_NoRule_True ?yxkit_NoRule_Nought_False ?yxkit_NoRule_TooLong_False ?yxkit_NoText_NoFit_False ?yxkit_NoText_NoRule_False ?yxkit_NoText_Nought_False ?yxkit_NoText_TooLong_False ?yxkit_NoName_NoFit_False ?yxkit_NoName_NoRule_False ?yxkit_NoName_Nought_False ?yxkit_NoName_TooLong_False ?yxkit_Unlike_NoFit_False ?yxkit_Unlike_NoRule_False ?yxkit_Unlike_Nought_False ?yxkit_Unlike_TooLong_False ?yxkit_Nought_NoFit_False ?yxkit_Nought_NoRule_False ?yxkit_Nought_Nought_True ?yxkit_Nought_TooLong_False ?yxkit_NothingDone_NoFit_False ?yxkit_NothingDone_NoRule_False ?yxkit_NothingDone_Nought_False ?yxkit_NothingDone_TooLong_False ?yxkit_NoLine_NoFit_False ?yxkit_NoLine_NoRule_False ?yxkit_NoLine_Nought_False ?yxkit_NoLine_TooLong_False ?yxkib_ValueError_NoFit ?yxkib_ValueError_NoRule ?yxkib_ValueError_Nought ?yxkib_ValueError_TooLong ?yxnog_ValueError ?yxkit_LoftError_NoFit_True ?yxkit_LoftError_NoRule_True ?yxkit_LoftError_Nought_True ?yxkit_LoftError_TooLong_True ?yxcl0_Nought1 ?yxcl0_Nought2 ?yxcl0_Nought3 ?yxcl0_Nought4 ?yxext_TooLong_NoFit_False ?yxext_NoFit_NoFit_True ?yxext_TooLong_NoRule_False ?yxext_NoFit_NoRule_False ?yxext_TooLong_Nought_False ?yxext_NoFit_Nought_False ?yxext_TooLong_TooLong_True ?yxext_NoFit_TooLong_False ?yxxcf_NoFit_number ?yxxcf_TooLong_number ?yxext_Nought_NoRule_False ?yxext_Nought_Nought_True ?yxext_NoRule_NoRule_True ?yxxcf_NoRule_rule
    (case a0 => k_is)
    (case l0 => k_is)
    (case c0 => k_is)
    (case k0 => k_is)
    (case a1 => k_is)
    (case l1 => k_is)
    (case c1 => k_is)
    (case k1 => k_is)
    (case a2 => k_is)
    (case l2 => k_is)
    (case c2 => k_is)
    (case k2 => k_is)
    (case a3 => k_is)
    (case l3 => k_is)
    (case c3 => k_is)
    (case k3 => k_is)
    (case a4 => k_is)
    (case l4 => k_is)
    (case c4 => k_is)
    (case k4 => k_is)
    (case a5 => k_is)
    (case l5 => k_is)
    (case c5 => k_is)
    (case k5 => k_is)
    (case a6 => k_is)
    (case l6 => k_is)
    (case c6 => k_is)
    (case k6 => k_is)
    (case a7 => k_is)
    (case l7 => k_is)
    (case c7 => k_is)
    (case k7 => k_is)
    (case a8 => k_is)
    (case l8 => k_is)
    (case c8 => k_is)
    (case k8 => k_is)
    (case a9 => k_is)
    (case l9 => k_is)
    (case c9 => k_is)
    (case k9 => k_is)
    (case a10 => k_is)
    (case l10 => k_is)
    (case c10 => k_is)
    (case k10 => k_is)
    (case a11 => k_is)
    (case l11 => k_is)
    (case c11 => k_is)
    (case k11 => k_is)
    (case a12 => k_is)
    (case l12 => k_is)
    (case c12 => k_is)
    (case k12 => k_is)
    (case a13 => k_is)
    (case l13 => k_is)
    (case c13 => k_is)
    (case k13 => k_is)
    (case a14 => k_is)
    (case l14 => k_is)
    (case c14 => k_is)
    (case k14 => k_is)
    (case a15 => k_is)
    (case l15 => k_is)
    (case c15 => k_is)
    (case k15 => k_is)
    (case a16 => k_is)
    (case l16 => k_is)
    (case c16 => k_is)
    (case k16 => k_is)
    (case a17 => k_is)
    (case l17 => k_is)
    (case c17 => k_is)
    (case k17 => k_is)
    (case a18 => k_is)
    (case l18 => k_is)
    (case c18 => k_is)
    (case k18 => k_is)
    (case a19 => k_is)
    (case l19 => k_is)
    (case c19 => k_is)
    (case k19 => k_is)
    (case a20 => k_is)
    (case l20 => k_is)
    (case c20 => k_is)
    (case k20 => k_is)
    (case a21 => k_is)
    (case l21 => k_is)
    (case c21 => k_is)
    (case k21 => k_is)
    (case a22 => k_is)
    (case l22 => k_is)
    (case c22 => k_is)
    (case k22 => k_is)
    (case a23 => k_is)
    (case l23 => k_is)
    (case c23 => k_is)
    (case k23 => k_is)
    (case a24 => k_is)
    (case l24 => k_is)
    (case c24 => k_is)
    (case k24 => k_is)
    (case a25 => k_is)
    (case l25 => k_is)
    (case c25 => k_is)
    (case k25 => k_is)
    (case z_len => k_is)
    (case z_range => k_is)
    (case z_abs => k_is)
    (case z_max => k_is)
    (case z_min => k_is)
    (case z_int => k_is)
    (case z_str => k_is)
    (case z_tuple => k_is)
    (case z_list => k_is)
    (case z_all => k_is)
    (case z_any => k_is)
    (case z_isinstance => k_is)
    (case z_divmod => k_is)
    (case z_sum => k_is)
    (case z_zip => k_is)
    (case z_enumerate => k_is)
    (case z_reversed => k_is)
    (case z_sorted => k_is)
    (case z_dict => k_is)
    (case z_set => k_is)
    (case z_bool => k_is)
    (case qa_MOST_FIGURES => k_is)
    (case qa_BOUND => k_is)
    (case qa_RULES => k_is)
    (case ql_RULES => k_is)
    (case n_BadLine => k_is)
    (case n_LoftError => k_is)
    (case n_NoDeed => k_is)
    (case n_NoFit => k_is)
    (case n_NoLine => k_is)
    (case n_NoName => k_is)
    (case n_NoRow => k_is)
    (case n_NoRule => k_is)
    (case n_NoShape => k_is)
    (case n_NoTable => k_is)
    (case n_NoText => k_is)
    (case n_NothingDone => k_is)
    (case n_Nought => k_is)
    (case n_TooLong => k_is)
    (case n_Unlike => k_is)
    (case n_Wrong => k_is)
    (case b1_LoftError => k_is)
    (case b2_LoftError => k_is)
    (case b3_LoftError => k_is)
    (case l_NoFit => k_is)
    (case s_NoFit => k_is)
    (case e_NoFit => k_is)
    (case t_NoFit => k_is)
    (case p_NoFit => k_is)
    (case i_NoFit_ => k_is)
    (case j_NoFit => k_is)
    (case f_NoFit_number => k_is)
    (case g_NoFit => k_is)
    (case h_NoFit_ => k_is)
    (case m_NoFit_ => k_is)
    (case l_NoRule => k_is)
    (case s_NoRule => k_is)
    (case e_NoRule => k_is)
    (case t_NoRule => k_is)
    (case p_NoRule => k_is)
    (case i_NoRule_ => k_is)
    (case j_NoRule => k_is)
    (case f_NoRule_rule => k_is)
    (case g_NoRule => k_is)
    (case h_NoRule_ => k_is)
    (case m_NoRule_ => k_is)
    (case l_TooLong => k_is)
    (case s_TooLong => k_is)
    (case e_TooLong => k_is)
    (case t_TooLong => k_is)
    (case p_TooLong => k_is)
    (case i_TooLong_ => k_is)
    (case j_TooLong => k_is)
    (case f_TooLong_number => k_is)
    (case g_TooLong => k_is)
    (case h_TooLong_ => k_is)
    (case m_TooLong_ => k_is)
    (case yxnog_ValueError => k_is)
    (case yxcl0_Nought1 => k_exc)
    (case yxcl0_Nought2 => k_is)
    (case yxcl0_Nought3 => k_is)
    (case yxcl0_Nought4 => k_is)
    (case yxxcf_NoFit_ => first | rfl | decide +kernel)
    (case yxxcf_NoRule_ => first | rfl | decide +kernel)
    (case yxxcf_Nought_ => first | rfl | decide +kernel)
    (case yxxcf_TooLong_ => first | rfl | decide +kernel)
    (case yxkit_Wrong_NoFit_False => first | rfl | decide +kernel)
    (case yxkit_Wrong_NoRule_False => first | rfl | decide +kernel)
    (case yxkit_Wrong_Nought_False => first | rfl | decide +kernel)
    (case yxkit_Wrong_TooLong_False => first | rfl | decide +kernel)
    (case yxkit_NoFit_NoFit_True => first | rfl | decide +kernel)
    (case yxkit_NoFit_NoRule_False => first | rfl | decide +kernel)
    (case yxkit_NoFit_Nought_False => first | rfl | decide +kernel)
    (case yxkit_NoFit_TooLong_False => first | rfl | decide +kernel)
    (case yxkit_NoShape_NoFit_False => first | rfl | decide +kernel)
    (case yxkit_NoShape_NoRule_False => first | rfl | decide +kernel)
    (case yxkit_NoShape_Nought_False => first | rfl | decide +kernel)
    (case yxkit_NoShape_TooLong_False => first | rfl | decide +kernel)
    (case yxkit_NoRow_NoFit_False => first | rfl | decide +kernel)
    (case yxkit_NoRow_NoRule_False => first | rfl | decide +kernel)
    (case yxkit_NoRow_Nought_False => first | rfl | decide +kernel)
    (case yxkit_NoRow_TooLong_False => first | rfl | decide +kernel)
    (case yxkit_NoTable_NoFit_False => first | rfl | decide +kernel)
    (case yxkit_NoTable_NoRule_False => first | rfl | decide +kernel)
    (case yxkit_NoTable_Nought_False => first | rfl | decide +kernel)
    (case yxkit_NoTable_TooLong_False => first | rfl | decide +kernel)
    (case yxkit_TooLong_NoFit_False => first | rfl | decide +kernel)
    (case yxkit_TooLong_NoRule_False => first | rfl | decide +kernel)
    (case yxkit_TooLong_Nought_False => first | rfl | decide +kernel)
    (case yxkit_TooLong_TooLong_True => first | rfl | decide +kernel)
    (case yxkit_BadLine_NoFit_False => first | rfl | decide +kernel)
    (case yxkit_BadLine_NoRule_False => first | rfl | decide +kernel)
    (case yxkit_BadLine_Nought_False => first | rfl | decide +kernel)
    (case yxkit_BadLine_TooLong_False => first | rfl | decide +kernel)
    (case yxkit_NoDeed_NoFit_False => first | rfl | decide +kernel)
    (case yxkit_NoDeed_NoRule_False => first | rfl | decide +kernel)
    (case yxkit_NoDeed_Nought_False => first | rfl | decide +kernel)
    (case yxkit_NoDeed_TooLong_False => first | rfl | decide +kernel)
    (case yxkit_NoRule_NoFit_False => first | rfl | decide +kernel)
    (case yxkit_NoRule_NoRule_True => first | rfl | decide +kernel)
    (case yxkit_NoRule_Nought_False => first | rfl | decide +kernel)
    (case yxkit_NoRule_TooLong_False => first | rfl | decide +kernel)
    (case yxkit_NoText_NoFit_False => first | rfl | decide +kernel)
    (case yxkit_NoText_NoRule_False => first | rfl | decide +kernel)
    (case yxkit_NoText_Nought_False => first | rfl | decide +kernel)
    (case yxkit_NoText_TooLong_False => first | rfl | decide +kernel)
    (case yxkit_NoName_NoFit_False => first | rfl | decide +kernel)
    (case yxkit_NoName_NoRule_False => first | rfl | decide +kernel)
    (case yxkit_NoName_Nought_False => first | rfl | decide +kernel)
    (case yxkit_NoName_TooLong_False => first | rfl | decide +kernel)
    (case yxkit_Unlike_NoFit_False => first | rfl | decide +kernel)
    (case yxkit_Unlike_NoRule_False => first | rfl | decide +kernel)
    (case yxkit_Unlike_Nought_False => first | rfl | decide +kernel)
    (case yxkit_Unlike_TooLong_False => first | rfl | decide +kernel)
    (case yxkit_Nought_NoFit_False => first | rfl | decide +kernel)
    (case yxkit_Nought_NoRule_False => first | rfl | decide +kernel)
    (case yxkit_Nought_Nought_True => first | rfl | decide +kernel)
    (case yxkit_Nought_TooLong_False => first | rfl | decide +kernel)
    (case yxkit_NothingDone_NoFit_False => first | rfl | decide +kernel)
    (case yxkit_NothingDone_NoRule_False => first | rfl | decide +kernel)
    (case yxkit_NothingDone_Nought_False => first | rfl | decide +kernel)
    (case yxkit_NothingDone_TooLong_False => first | rfl | decide +kernel)
    (case yxkit_NoLine_NoFit_False => first | rfl | decide +kernel)
    (case yxkit_NoLine_NoRule_False => first | rfl | decide +kernel)
    (case yxkit_NoLine_Nought_False => first | rfl | decide +kernel)
    (case yxkit_NoLine_TooLong_False => first | rfl | decide +kernel)
    (case yxkib_ValueError_NoFit => first | rfl | decide +kernel)
    (case yxkib_ValueError_NoRule => first | rfl | decide +kernel)
    (case yxkib_ValueError_Nought => first | rfl | decide +kernel)
    (case yxkib_ValueError_TooLong => first | rfl | decide +kernel)
    (case yxkit_LoftError_NoFit_True => first | rfl | decide +kernel)
    (case yxkit_LoftError_NoRule_True => first | rfl | decide +kernel)
    (case yxkit_LoftError_Nought_True => first | rfl | decide +kernel)
    (case yxkit_LoftError_TooLong_True => first | rfl | decide +kernel)
    (case yxext_TooLong_NoFit_False => first | rfl | decide +kernel)
    (case yxext_NoFit_NoFit_True => first | rfl | decide +kernel)
    (case yxext_TooLong_NoRule_False => first | rfl | decide +kernel)
    (case yxext_NoFit_NoRule_False => first | rfl | decide +kernel)
    (case yxext_TooLong_Nought_False => first | rfl | decide +kernel)
    (case yxext_NoFit_Nought_False => first | rfl | decide +kernel)
    (case yxext_TooLong_TooLong_True => first | rfl | decide +kernel)
    (case yxext_NoFit_TooLong_False => first | rfl | decide +kernel)
    (case yxxcf_NoFit_number => first | rfl | decide +kernel)
    (case yxxcf_TooLong_number => first | rfl | decide +kernel)
    (case yxext_Nought_NoRule_False => first | rfl | decide +kernel)
    (case yxext_Nought_Nought_True => first | rfl | decide +kernel)
    (case yxext_NoRule_NoRule_True => first | rfl | decide +kernel)
    (case yxxcf_NoRule_rule => first | rfl | decide +kernel)
    (case qe_RULES => decide +kernel)
    (case qz_RULES => decide +kernel)
