import PyProof.Rows.All
import Wide.All
import OpenK.AllK
import Wide.FinOn
import HandS.ForMost
import HandS.ForExc
import HandS.Wide
import HandS.Evl
import HandS.TupAny
import HandS.TupMul
import HandS.NoneIn
import HandS.Zip
import HandS.IsInst
import HandS.Text
import HandS.StrMore
import HandS.Comp
import HandS.Style
import KE.KeyNested
import PyProof.StrOps2
import KE.GoesMore
import KE.GoesEnum
import KE.GoesZip
import HandS.ExcCtx
import HandS.ExcOwn
import HandS.ExcInit
import HandS.ExcIs
import HandS.ExcField
import HandS.Replace
import HandS.CallLocal
import HandS.WideBits
import HandS.Conv
import KE.GoesEnumKw
import PyProof.Rows.CallKwBuiltin
import HandS.HotCalls
import HandS.More
import HandS.RaiseMore
import HandS.TupLe
import HandS.Flt
import HandS.TupLen
import PySem.Challenge.RW_tensloft_k70_none_in_any_order
set_option Elab.async false
set_option linter.all false
set_option maxRecDepth 100000
set_option maxHeartbeats 2000000
namespace Tm
open PySem L2
inductive MV where
  | non | bl (b : Bool) | int (i : Int) | str (x : Str)
  | tup (xs : List MV) | lst (xs : List MV) | own (xs : List MV)
  | raw (v : V) | scr (ns : List Int)
  | fnc (x : Str)
  | obj (C : Str) (fs : List (Str × MV))
  | dct (ks : List Key) (xs : List MV)
  | dow (ks : List Key) (xs : List MV)
  | dot (ks : List MV) (xs : List MV)
instance : Inhabited MV := ⟨.non⟩
abbrev Env := List (Option MV)
structure MX where
  cls : Str
  fs : List (Str × MV)
inductive Res (α : Type) where
  | ok (a : α) | exc (e : MX) (ρ : Env) | stuck
inductive Fl where
  | nx | br | ct | rt (x : MV)
open Evl (Ex ex_rd ex_l ex_t)
theorem _root_.Evl.Ex.back {H H' : Hp} {p : Addr} (e : Ex H H') (h : H' p = none) : H p = none := Evl.fresh_back e h
theorem _root_.Evl.Ex.both {H H' : Hp} {p : Addr} {o : HO} (e : Ex H H') (h : H' p = none) : Ex (upd H p o) (upd H' p o) := fun a u ha => by
  by_cases hp : a = p
  · subst hp; rw [upd_same] at ha ⊢; exact ha
  · rw [upd_ne hp] at ha ⊢; exact e a u ha
theorem _root_.Evl.Ex.updL {H H' : Hp} {p : Addr} {o : HO} (e : Ex H H') (h : H' p = some o) : Ex (upd H p o) H' := fun a u ha => by
  by_cases hp : a = p
  · subst hp; rw [upd_same] at ha; cases ha; exact h
  · rw [upd_ne hp] at ha; exact e a u ha
mutual
def RV (K : PySem.W.Frag) (H : Hp) : MV → V → Prop
  | .non, v => v = .non
  | .bl b, v => v = .bl b
  | .int i, v => v = .int i
  | .str x, v => v = .str x
  | .tup xs, v => ∃ a vs, v = .ref a ∧ SqT K H a vs ∧ RVs K H xs vs
  | .lst xs, v => ∃ a vs, v = .ref a ∧ H a = some (.lst vs) ∧ RVs K H xs vs
  | .own _, _ => False
  | .raw w, v => v = w
  | .scr ns, v => ∃ a, v = .ref a ∧ SqL K H a (ns.map V.int)
  | .fnc x, v => ∃ a, v = .ref a ∧ PySem.W.nsIn K mainGlobals x = some (some (.ref a))
  | .obj _ _, _ => False
  | .dct ks xs, v => ∃ a vs, v = .ref a ∧ H a = some (.dK (ks.zip vs)) ∧ ks.length = xs.length ∧ RVs K H xs vs
  | .dow _ _, _ => False
  | .dot _ _, _ => False
def RVs (K : PySem.W.Frag) (H : Hp) : List MV → List V → Prop
  | [], vs => vs = []
  | x :: xs, vs => ∃ v r, vs = v :: r ∧ RV K H x v ∧ RVs K H xs r
end
mutual
theorem RV.mono {K : PySem.W.Frag} {H H' : Hp} (e : Ex H H') : ∀ (x : MV) (v : V), RV K H x v → RV K H' x v
  | .non, v, h => by unfold RV at h ⊢; exact h
  | .bl b, v, h => by unfold RV at h ⊢; exact h
  | .int i, v, h => by unfold RV at h ⊢; exact h
  | .str x, v, h => by unfold RV at h ⊢; exact h
  | .tup xs, v, h => by
    unfold RV at h ⊢
    obtain ⟨a, vs, e1, e2, e3⟩ := h
    exact ⟨a, vs, e1, ex_t e e2, RVs.mono e xs vs e3⟩
  | .lst xs, v, h => by
    unfold RV at h ⊢
    obtain ⟨a, vs, e1, e2, e3⟩ := h
    exact ⟨a, vs, e1, e _ _ e2, RVs.mono e xs vs e3⟩
  | .own xs, v, h => by unfold RV at h; exact h.elim
  | .raw w, v, h => by unfold RV at h ⊢; exact h
  | .scr ns, v, h => by
    unfold RV at h ⊢
    obtain ⟨a, e1, e2⟩ := h
    exact ⟨a, e1, ex_l e e2⟩
  | .fnc x, v, h => by unfold RV at h ⊢; exact h
  | .obj C fs, v, h => by unfold RV at h; exact h.elim
  | .dct ks xs, v, h => by
    unfold RV at h ⊢
    obtain ⟨a, vs, e1, e2, e3, e4⟩ := h
    exact ⟨a, vs, e1, e _ _ e2, e3, RVs.mono e xs vs e4⟩
  | .dow ks xs, v, h => by unfold RV at h; exact h.elim
  | .dot ks xs, v, h => by unfold RV at h; exact h.elim
theorem RVs.mono {K : PySem.W.Frag} {H H' : Hp} (e : Ex H H') : ∀ (xs : List MV) (vs : List V), RVs K H xs vs → RVs K H' xs vs
  | [], vs, h => by unfold RVs at h ⊢; exact h
  | x :: xs, vs, h => by
    unfold RVs at h ⊢
    obtain ⟨v, r, e1, e2, e3⟩ := h
    exact ⟨v, r, e1, RV.mono e x v e2, RVs.mono e xs r e3⟩
end
section
variable {K : PySem.W.Frag} {H : Hp}
theorem RV.int {i : Int} {v : V} : RV K H (.int i) v ↔ v = .int i := by unfold RV; rfl
theorem RV.bl {i : Bool} {v : V} : RV K H (.bl i) v ↔ v = .bl i := by unfold RV; rfl
theorem RV.str {i : Str} {v : V} : RV K H (.str i) v ↔ v = .str i := by unfold RV; rfl
theorem RV.non {v : V} : RV K H .non v ↔ v = .non := by unfold RV; rfl
theorem RV.raw {w v : V} : RV K H (.raw w) v ↔ v = w := by unfold RV; rfl
theorem RV.tup {xs : List MV} {v : V} : RV K H (.tup xs) v ↔ ∃ a vs, v = .ref a ∧ SqT K H a vs ∧ RVs K H xs vs := by
  constructor <;> intro h <;> (unfold RV at *; exact h)
theorem RV.lst {xs : List MV} {v : V} : RV K H (.lst xs) v ↔ ∃ a vs, v = .ref a ∧ H a = some (.lst vs) ∧ RVs K H xs vs := by
  constructor <;> intro h <;> (unfold RV at *; exact h)
theorem RV.dct {ks : List Key} {xs : List MV} {v : V} : RV K H (.dct ks xs) v ↔ ∃ a vs, v = .ref a ∧ H a = some (.dK (ks.zip vs)) ∧ ks.length = xs.length ∧ RVs K H xs vs := by
  constructor <;> intro h <;> (unfold RV at *; exact h)
theorem RV.scr {ns : List Int} {v : V} : RV K H (.scr ns) v ↔ ∃ a, v = .ref a ∧ SqL K H a (ns.map V.int) := by
  constructor <;> intro h <;> (unfold RV at *; exact h)
theorem RV.fnc {x : Str} {v : V} : RV K H (.fnc x) v ↔ ∃ a, v = .ref a ∧ PySem.W.nsIn K mainGlobals x = some (some (.ref a)) := by
  constructor <;> intro h <;> (unfold RV at *; exact h)
theorem RVs.nil {vs : List V} : RVs K H [] vs ↔ vs = [] := by unfold RVs; rfl
theorem RVs.cons {x : MV} {xs : List MV} {vs : List V} : RVs K H (x :: xs) vs ↔ ∃ v r, vs = v :: r ∧ RV K H x v ∧ RVs K H xs r := by
  rw [RVs]
theorem RVs.length : ∀ {xs : List MV} {vs : List V}, RVs K H xs vs → vs.length = xs.length
  | [], vs, h => by rw [RVs.nil] at h; subst h; rfl
  | x :: xs, vs, h => by
    rw [RVs.cons] at h
    obtain ⟨v, r, rfl, _, h⟩ := h
    simp [RVs.length h]
theorem RVs.get : ∀ {xs : List MV} {vs : List V} {i : Nat} {x : MV}, RVs K H xs vs → xs[i]? = some x → ∃ v, vs[i]? = some v ∧ RV K H x v
  | [], _, i, x, _, e => by simp at e
  | y :: xs, vs, 0, x, h, e => by
    rw [RVs.cons] at h
    obtain ⟨v, r, rfl, h1, _⟩ := h
    simp at e; subst e; exact ⟨v, rfl, h1⟩
  | y :: xs, vs, i + 1, x, h, e => by
    rw [RVs.cons] at h
    obtain ⟨v, r, rfl, _, h⟩ := h
    obtain ⟨u, h1, h2⟩ := RVs.get (i := i) (x := x) h (by simpa using e)
    exact ⟨u, by simpa using h1, h2⟩
theorem RVs.append : ∀ {xs ys : List MV} {vs ws : List V}, RVs K H xs vs → RVs K H ys ws → RVs K H (xs ++ ys) (vs ++ ws)
  | [], ys, vs, ws, h, h2 => by rw [RVs.nil] at h; subst h; exact h2
  | x :: xs, ys, vs, ws, h, h2 => by
    rw [RVs.cons] at h
    obtain ⟨v, r, rfl, h1, h⟩ := h
    show RVs K H (x :: (xs ++ ys)) (v :: (r ++ ws))
    rw [RVs.cons]
    exact ⟨v, r ++ ws, rfl, h1, RVs.append h h2⟩
theorem RVs.take : ∀ {xs : List MV} {vs : List V} (n : Nat), RVs K H xs vs → RVs K H (xs.take n) (vs.take n)
  | _, _, 0, _ => by simp [RVs]
  | [], vs, n + 1, h => by rw [RVs.nil] at h; subst h; simp [RVs]
  | x :: xs, vs, n + 1, h => by
    rw [RVs.cons] at h
    obtain ⟨v, r, rfl, h1, h⟩ := h
    show RVs K H (x :: xs.take n) (v :: r.take n)
    rw [RVs.cons]
    exact ⟨v, _, rfl, h1, RVs.take n h⟩
theorem RVs.drop : ∀ {xs : List MV} {vs : List V} (n : Nat), RVs K H xs vs → RVs K H (xs.drop n) (vs.drop n)
  | _, _, 0, h => h
  | [], vs, n + 1, h => by rw [RVs.nil] at h; subst h; simp [RVs]
  | x :: xs, vs, n + 1, h => by
    rw [RVs.cons] at h
    obtain ⟨v, r, rfl, h1, h⟩ := h
    exact RVs.drop n h
theorem RVs.set : ∀ {xs : List MV} {vs : List V} (i : Nat) {x : MV} {v : V}, RVs K H xs vs → RV K H x v → RVs K H (xs.set i x) (vs.set i v)
  | [], vs, i, x, v, h, _ => by rw [RVs.nil] at h; subst h; simp [RVs]
  | y :: xs, vs, 0, x, v, h, h2 => by
    rw [RVs.cons] at h
    obtain ⟨u, r, rfl, h1, h⟩ := h
    show RVs K H (x :: xs) (v :: r)
    rw [RVs.cons]; exact ⟨v, r, rfl, h2, h⟩
  | y :: xs, vs, i + 1, x, v, h, h2 => by
    rw [RVs.cons] at h
    obtain ⟨u, r, rfl, h1, h⟩ := h
    show RVs K H (y :: xs.set i x) (u :: r.set i v)
    rw [RVs.cons]; exact ⟨u, _, rfl, h1, RVs.set i h h2⟩
theorem RVs.reverse : ∀ {xs : List MV} {vs : List V}, RVs K H xs vs → RVs K H xs.reverse vs.reverse
  | [], vs, h => by rw [RVs.nil] at h; subst h; simp [RVs]
  | x :: xs, vs, h => by
    rw [RVs.cons] at h
    obtain ⟨v, r, rfl, h1, h⟩ := h
    rw [List.reverse_cons, List.reverse_cons]
    refine RVs.append (RVs.reverse h) ?_
    rw [RVs.cons]; exact ⟨v, [], rfl, h1, RVs.nil.mpr rfl⟩
theorem RVs.ints : ∀ {ns : List Int} {vs : List V}, RVs K H (ns.map MV.int) vs ↔ vs = ns.map V.int
  | [], vs => RVs.nil
  | n :: ns, vs => by
    rw [List.map_cons, RVs.cons]
    constructor
    · rintro ⟨v, r, rfl, h1, h2⟩
      rw [RV.int.mp h1, RVs.ints.mp h2]; rfl
    · rintro rfl
      exact ⟨_, _, rfl, RV.int.mpr rfl, RVs.ints.mpr rfl⟩
end
mutual
def nkI : MV → Option NestedKey
  | .int i => some (.num i)
  | .tup xs => (nkIs xs).map .tup
  | _ => none
def nkIs : List MV → Option (List NestedKey)
  | [] => some []
  | x :: xs => match nkI x, nkIs xs with
    | some k, some ks => some (k :: ks)
    | _, _ => none
end
mutual
def nh : NestedKey → Int
  | .none => reduceHash 0xFCA86420
  | .num i => hashInt i
  | .text _ => 0
  | .tup ks => reduceHash (Builtin.Tuple.tupleHashOf (nhs ks))
def nhs : List NestedKey → List Int
  | [] => []
  | k :: ks => nh k :: nhs ks
end
def nEntry (x : NestedKey × Addr × Value) : DictEntry := ⟨nh x.1, .ref x.2.1, x.2.2⟩
def nDict (p : Addr) (kvs : List (NestedKey × Addr × V)) (h : Heap) : Prop :=
  kvs.length ≤ sizeLine ∧ (p == sysModules) = false ∧ ∃ xs : List (NestedKey × Addr × Value), Paired (fun (a : NestedKey × Addr × V) (b : NestedKey × Addr × Value) => a.1 = b.1 ∧ a.2.1 = b.2.1 ∧ RelV a.2.2 b.2.2) kvs xs ∧
    ∃ o es ep, h.get? p = some o ∧ o.ExactDict ∧ o.data = .dict es ep ∧ es.toList = xs.map nEntry ∧ (xs.map (·.1)).Nodup
def KN (K : PySem.W.Frag) (Hk : Hp) : List MV → List MV → List (NestedKey × Addr × V) → Prop
  | [], [], l => l = []
  | k :: ks, x :: xs, l => ∃ nk a v r, l = (nk, a, v) :: r ∧ nkI k = some nk ∧ nk.depth ≤ 8 ∧ RV K Hk k (.ref a) ∧ RV K Hk x v ∧ KN K Hk ks xs r
  | _, _, _ => False
theorem KN.mono {K : PySem.W.Frag} {H H' : Hp} (e : Ex H H') : ∀ {ks xs : List MV} {l : List (NestedKey × Addr × V)}, KN K H ks xs l → KN K H' ks xs l
  | [], [], _, h => h
  | [], _ :: _, _, h => h.elim
  | _ :: _, [], _, h => h.elim
  | k :: ks, x :: xs, _, h => by
    obtain ⟨nk, a, v, r, h1, h2, h3, h4, h5, h6⟩ := h
    exact ⟨nk, a, v, r, h1, h2, h3, RV.mono e _ _ h4, RV.mono e _ _ h5, KN.mono e h6⟩
def OF (K : PySem.W.Frag) (Hk H : Hp) : MV → V → List Addr → Prop
  | .own xs, v, A => ∃ p vs, v = .ref p ∧ A = [p] ∧ H p = some (.lst vs) ∧ RVs K Hk xs vs
  | .dow ks xs, v, A => ∃ p vs, v = .ref p ∧ A = [p] ∧ H p = some (.dK (ks.zip vs)) ∧ ks.length = xs.length ∧ RVs K Hk xs vs
  | .dot ks xs, v, A => ∃ p l, v = .ref p ∧ A = [p] ∧ H p = some (.ext (nDict p l)) ∧ KN K Hk ks xs l
  | x, v, A => A = [] ∧ RV K Hk x v
def OFs (K : PySem.W.Frag) (Hk H : Hp) : List (Str × MV) → List (Str × V) → List Addr → Prop
  | [], vs, A => vs = [] ∧ A = []
  | (n, x) :: xs, vs, A => ∃ v r B C, vs = (n, v) :: r ∧ A = B ++ C ∧ OF K Hk H x v B ∧ OFs K Hk H xs r C
def OV (K : PySem.W.Frag) (Hk H : Hp) : MV → V → List Addr → Prop
  | .obj C fs, v, A => ∃ p CA dx vfs B, v = .ref p ∧ A = p :: B ∧ PySem.W.nsIn K mainGlobals C = some (some (.ref CA)) ∧ H p = some (.ins CA dx vfs) ∧ OFs K Hk H fs vfs B ∧ (p :: B).Nodup
  | x, v, A => OF K Hk H x v A
def MV.per : MV → Bool
  | .own _ => false
  | .obj _ _ => false
  | .dow _ _ => false
  | .dot _ _ => false
  | _ => true
theorem OF.per {K : PySem.W.Frag} {Hk H : Hp} {x : MV} {v : V} {A : List Addr} (h : x.per = true) : OF K Hk H x v A ↔ A = [] ∧ RV K Hk x v := by
  cases x <;> first | (simp [MV.per] at h; done) | (unfold OF; rfl)
theorem OV.per {K : PySem.W.Frag} {Hk H : Hp} {x : MV} {v : V} {A : List Addr} (h : x.per = true) : OV K Hk H x v A ↔ A = [] ∧ RV K Hk x v := by
  cases x <;> first | (simp [MV.per] at h; done) | (unfold OV OF; rfl)
theorem OV.own {K : PySem.W.Frag} {Hk H : Hp} {xs : List MV} {v : V} {A : List Addr} : OV K Hk H (.own xs) v A ↔ ∃ p vs, v = .ref p ∧ A = [p] ∧ H p = some (.lst vs) ∧ RVs K Hk xs vs := by
  unfold OV OF; rfl
theorem RV.isper {K : PySem.W.Frag} {H : Hp} {x : MV} {v : V} (h : RV K H x v) : x.per = true := by
  cases x <;> first | rfl | (unfold RV at h; exact h.elim)
theorem RV.ov {K : PySem.W.Frag} {Hk H : Hp} {x : MV} {v : V} (h : RV K Hk x v) : OV K Hk H x v [] := (OV.per h.isper).mpr ⟨rfl, h⟩
theorem OF.move {K : PySem.W.Frag} {Hk Hk' H H' : Hp} {x : MV} {v : V} {A : List Addr} (h : OF K Hk H x v A) (e : Ex Hk Hk') (k : ∀ a ∈ A, ∀ o, H a = some o → H' a = some o) : OF K Hk' H' x v A := by
  cases x with
  | own xs =>
    unfold OF at h ⊢
    obtain ⟨p, vs, e1, e2, e3, e4⟩ := h
    exact ⟨p, vs, e1, e2, k p (by rw [e2]; simp) _ e3, e4.mono e⟩
  | dow ks xs =>
    unfold OF at h ⊢
    obtain ⟨p, vs, e1, e2, e3, e5, e4⟩ := h
    exact ⟨p, vs, e1, e2, k p (by rw [e2]; simp) _ e3, e5, e4.mono e⟩
  | dot ks xs =>
    unfold OF at h ⊢
    obtain ⟨p, l, e1, e2, e3, e4⟩ := h
    exact ⟨p, l, e1, e2, k p (by rw [e2]; simp) _ e3, e4.mono e⟩
  | obj C fs => exact (show False by unfold OF at h; unfold RV at h; exact h.2).elim
  | _ =>
    unfold OF at h ⊢
    exact ⟨h.1, RV.mono e _ _ h.2⟩
theorem OFs.move {K : PySem.W.Frag} {Hk Hk' H H' : Hp} : ∀ {fs : List (Str × MV)} {vs : List (Str × V)} {A : List Addr}, OFs K Hk H fs vs A → Ex Hk Hk' → (∀ a ∈ A, ∀ o, H a = some o → H' a = some o) → OFs K Hk' H' fs vs A
  | [], _, _, h, _, _ => h
  | (n, x) :: fs, vs, A, h, e, k => by
    obtain ⟨v, r, B, C, e1, e2, h1, h2⟩ := h
    refine ⟨v, r, B, C, e1, e2, h1.move e fun a ha => k a (by rw [e2]; exact List.mem_append_left _ ha), OFs.move h2 e fun a ha => k a (by rw [e2]; exact List.mem_append_right _ ha)⟩
theorem OV.move {K : PySem.W.Frag} {Hk Hk' H H' : Hp} {x : MV} {v : V} {A : List Addr} (h : OV K Hk H x v A) (e : Ex Hk Hk') (k : ∀ a ∈ A, ∀ o, H a = some o → H' a = some o) : OV K Hk' H' x v A := by
  cases x with
  | obj C fs =>
    unfold OV at h ⊢
    obtain ⟨p, CA, dx, vfs, B, e1, e2, e0, e3, e4, e5⟩ := h
    exact ⟨p, CA, dx, vfs, B, e1, e2, e0, k p (by rw [e2]; simp) _ e3, OFs.move e4 e fun a ha => k a (by rw [e2]; exact List.mem_cons_of_mem _ ha), e5⟩
  | _ => (unfold OV at h ⊢; exact OF.move h e k)
theorem OF.there {K : PySem.W.Frag} {Hk H : Hp} {x : MV} {v : V} {A : List Addr} (h : OF K Hk H x v A) : ∀ a ∈ A, ∃ o, H a = some o := by
  cases x with
  | own xs =>
    unfold OF at h
    obtain ⟨p, vs, e1, e2, e3, e4⟩ := h
    intro a ha
    rw [e2] at ha
    simp at ha
    subst ha
    exact ⟨_, e3⟩
  | dow ks xs =>
    unfold OF at h
    obtain ⟨p, vs, e1, e2, e3, e5, e4⟩ := h
    intro a ha
    rw [e2] at ha
    simp at ha
    subst ha
    exact ⟨_, e3⟩
  | dot ks xs =>
    unfold OF at h
    obtain ⟨p, l, e1, e2, e3, e4⟩ := h
    intro a ha
    rw [e2] at ha
    simp at ha
    subst ha
    exact ⟨_, e3⟩
  | _ =>
    unfold OF at h
    intro a ha
    rw [h.1] at ha
    cases ha
theorem OFs.there {K : PySem.W.Frag} {Hk H : Hp} : ∀ {fs : List (Str × MV)} {vs : List (Str × V)} {A : List Addr}, OFs K Hk H fs vs A → ∀ a ∈ A, ∃ o, H a = some o
  | [], _, _, h, a, ha => by rw [h.2] at ha; cases ha
  | (n, x) :: fs, vs, A, h, a, ha => by
    obtain ⟨v, r, B, C, e1, e2, h1, h2⟩ := h
    rw [e2] at ha
    rcases List.mem_append.mp ha with ha | ha
    · exact h1.there a ha
    · exact OFs.there h2 a ha
theorem OV.there {K : PySem.W.Frag} {Hk H : Hp} {x : MV} {v : V} {A : List Addr} (h : OV K Hk H x v A) : ∀ a ∈ A, ∃ o, H a = some o := by
  cases x with
  | obj C fs =>
    unfold OV at h
    obtain ⟨p, CA, dx, vfs, B, e1, e2, e0, e3, e4, e5⟩ := h
    intro a ha
    rw [e2] at ha
    rcases List.mem_cons.mp ha with rfl | ha
    · exact ⟨_, e3⟩
    · exact OFs.there e4 a ha
  | _ => (unfold OV at h; exact OF.there h)
def put (ow : Nat → List Addr) (i : Nat) (A : List Addr) : Nat → List Addr := fun j => if j = i then A else ow j
theorem put_same {ow : Nat → List Addr} {i : Nat} {A : List Addr} : put ow i A i = A := if_pos rfl
theorem put_ne {ow : Nat → List Addr} {i j : Nat} {A : List Addr} (h : j ≠ i) : put ow i A j = ow j := if_neg h
structure SL (K : PySem.W.Frag) (F Hk H : Hp) (ow : Nat → List Addr) (σ : St) (ρ : Env) : Prop where
  s : ∀ (i : Nat) x, ρ[i]? = some (some x) → ∃ v, σ[i]? = some (some v) ∧ OV K Hk H x v (ow i)
  f : ∀ i a, a ∈ ow i → Hk a = none ∧ F a = none ∧ ∃ o, H a = some o
  w : ∀ i, ow i ≠ [] → i < ρ.length
  d : ∀ i j a, i ≠ j → a ∈ ow i → a ∉ ow j
structure RS (K : PySem.W.Frag) (F Hk H : Hp) (bp : List (Nat × Addr)) (σ : St) (ρ : Env) : Prop where
  len : σ.length = ρ.length
  ex : Ex Hk H
  fr : Ex F H
  frk : ∀ a o, F a = some o → Hk a = none
  ow : ∃ ow, SL K F Hk H ow σ ρ
  bor : ∀ q ∈ bp, σ[q.1]? = some (some (.ref q.2))
theorem set_get {α : Type} {l : List α} {i j : Nat} {x y : α} (h : (l.set i x)[j]? = some y) : (j = i ∧ y = x) ∨ (j ≠ i ∧ l[j]? = some y) := by
  by_cases e : i = j
  · subst e
    rw [List.getElem?_set] at h
    simp at h
    exact .inl ⟨rfl, h.2.symm⟩
  · rw [List.getElem?_set_ne e] at h
    exact .inr ⟨fun q => e q.symm, h⟩
theorem app_get {α : Type} {l : List α} {j : Nat} {x y : α} (h : (l ++ [x])[j]? = some y) : (j = l.length ∧ y = x) ∨ (j < l.length ∧ l[j]? = some y) := by
  by_cases e : j < l.length
  · rw [List.getElem?_append_left e] at h; exact .inr ⟨e, h⟩
  · rw [List.getElem?_append_right (Nat.le_of_not_lt e)] at h
    have := (List.getElem?_eq_some_iff.mp h).1
    simp at this
    have ej : j = l.length := by omega
    subst ej
    simp at h
    exact .inl ⟨rfl, h.symm⟩
theorem lt_get {α : Type} {l : List α} {j : Nat} {y : α} (h : l[j]? = some y) : j < l.length := (List.getElem?_eq_some_iff.mp h).1
section
variable {K : PySem.W.Frag} {F Hk Hk' H H' : Hp} {bp : List (Nat × Addr)} {σ : St} {ρ : Env} {ow : Nat → List Addr}
theorem SL.out (S : SL K F Hk H ow σ ρ) {i : Nat} (h : ρ.length ≤ i) : ow i = [] := by
  cases e : ow i with
  | nil => rfl
  | cons a r => exact absurd (S.w i (by rw [e]; simp)) (by omega)
theorem SL.fresh (S : SL K F Hk H ow σ ρ) {p : Addr} (h : H p = none) (i : Nat) : p ∉ ow i := fun m => by
  obtain ⟨_, _, o, e⟩ := S.f i p m
  rw [h] at e; cases e
theorem SL.kn (S : SL K F Hk H ow σ ρ) {p : Addr} {o : HO} (h : Hk p = some o) (i : Nat) : p ∉ ow i := fun m => by
  obtain ⟨e, _⟩ := S.f i p m
  rw [h] at e; cases e
theorem SL.step (S : SL K F Hk H ow σ ρ) (e : Ex Hk Hk') (k : ∀ i, ∀ a ∈ ow i, H' a = H a ∧ Hk' a = none) : SL K F Hk' H' ow σ ρ := by
  refine ⟨fun i x h => ?_, fun i a h => ?_, S.w, S.d⟩
  · obtain ⟨v, ev, o⟩ := S.s i x h
    exact ⟨v, ev, o.move e fun a ha u hu => by rw [(k i a ha).1]; exact hu⟩
  · obtain ⟨f1, f2, o, f3⟩ := S.f i a h
    exact ⟨(k i a h).2, f2, o, by rw [(k i a h).1]; exact f3⟩
theorem SL.set (S : SL K F Hk H ow σ ρ) (hl : σ.length = ρ.length) {i : Nat} {x : MV} {v : V} (hi : i < ρ.length) (r : RV K Hk x v) : SL K F Hk H (put ow i []) (σ.set i (some v)) (ρ.set i (some x)) := by
  refine ⟨fun j y h => ?_, fun j a h => ?_, fun j h => ?_, fun j k a hjk h => ?_⟩
  · rcases set_get h with ⟨rfl, e⟩ | ⟨ne, e⟩
    · cases e
      refine ⟨v, by rw [List.getElem?_set_self (by rw [hl]; exact hi)], ?_⟩
      rw [put_same]; exact r.ov
    · obtain ⟨u, e1, e2⟩ := S.s j y e
      exact ⟨u, by rw [List.getElem?_set_ne (Ne.symm ne)]; exact e1, by rw [put_ne ne]; exact e2⟩
  · by_cases e : j = i
    · rw [e, put_same] at h; cases h
    · rw [put_ne e] at h; exact S.f j a h
  · by_cases e : j = i
    · rw [e, put_same] at h; exact (h rfl).elim
    · rw [put_ne e] at h; rw [List.length_set]; exact S.w j h
  · by_cases e : j = i
    · rw [e, put_same] at h; cases h
    · rw [put_ne e] at h
      by_cases e2 : k = i
      · rw [e2, put_same]; simp
      · rw [put_ne e2]; exact S.d j k a hjk h
theorem SL.push (S : SL K F Hk H ow σ ρ) (hl : σ.length = ρ.length) {x : MV} {v : V} {A : List Addr} (o : OV K Hk H x v A) (hf : ∀ a ∈ A, Hk a = none ∧ F a = none) (hd : ∀ i, ∀ a ∈ A, a ∉ ow i) :
    SL K F Hk H (put ow ρ.length A) (σ ++ [some v]) (ρ ++ [some x]) := by
  refine ⟨fun j y h => ?_, fun j a h => ?_, fun j h => ?_, fun j k a hjk h => ?_⟩
  · rcases app_get h with ⟨rfl, e⟩ | ⟨lt, e⟩
    · cases e
      refine ⟨v, by rw [← hl]; simp, ?_⟩
      rw [put_same]; exact o
    · obtain ⟨u, e1, e2⟩ := S.s j y e
      exact ⟨u, by rw [List.getElem?_append_left (by rw [hl]; exact lt)]; exact e1, by rw [put_ne (Nat.ne_of_lt lt)]; exact e2⟩
  · by_cases e : j = ρ.length
    · rw [e, put_same] at h; exact ⟨(hf a h).1, (hf a h).2, o.there a h⟩
    · rw [put_ne e] at h; exact S.f j a h
  · by_cases e : j = ρ.length
    · rw [e]; simp
    · rw [put_ne e] at h; have := S.w j h; simp; omega
  · by_cases e : j = ρ.length
    · rw [e, put_same] at h
      rw [put_ne (fun z => hjk (e.trans z.symm))]
      exact hd k a h
    · rw [put_ne e] at h
      by_cases e2 : k = ρ.length
      · rw [e2, put_same]; exact fun z => hd j a z h
      · rw [put_ne e2]; exact S.d j k a hjk h
theorem SL.take (S : SL K F Hk H ow (σ ++ [some v]) (ρ ++ [some x])) (hl : σ.length = ρ.length) {i : Nat} (hi : i < ρ.length) : SL K F Hk H (put (put ow i (ow ρ.length)) ρ.length []) (σ.set i (some v)) (ρ.set i (some x)) := by
  have ne : i ≠ ρ.length := Nat.ne_of_lt hi
  obtain ⟨u, hu, ou⟩ := S.s ρ.length x (by simp)
  have ev : u = v := by rw [← hl] at hu; simpa using hu.symm
  subst ev
  have lt : ∀ j a, a ∈ put (put ow i (ow ρ.length)) ρ.length [] j → (j = i ∧ a ∈ ow ρ.length) ∨ (j ≠ i ∧ j < ρ.length ∧ a ∈ ow j) := fun j a h => by
    by_cases e : j = ρ.length
    · rw [e, put_same] at h; cases h
    · rw [put_ne e] at h
      by_cases e2 : j = i
      · rw [e2, put_same] at h; exact .inl ⟨e2, h⟩
      · rw [put_ne e2] at h
        have := S.w j (by intro z; rw [z] at h; cases h)
        simp at this
        exact .inr ⟨e2, by omega, h⟩
  refine ⟨fun j y h => ?_, fun j a h => ?_, fun j h => ?_, fun j k a hjk h => ?_⟩
  · rcases set_get h with ⟨rfl, e⟩ | ⟨ne2, e⟩
    · cases e
      refine ⟨u, by rw [List.getElem?_set_self (by rw [hl]; exact hi)], ?_⟩
      rw [put_ne ne, put_same]; exact ou
    · have lj := lt_get e
      obtain ⟨w, e1, e2⟩ := S.s j y (by rw [List.getElem?_append_left lj]; exact e)
      rw [List.getElem?_append_left (by rw [hl]; exact lj)] at e1
      exact ⟨w, by rw [List.getElem?_set_ne (Ne.symm ne2)]; exact e1, by rw [put_ne (Nat.ne_of_lt lj), put_ne ne2]; exact e2⟩
  · rcases lt j a h with ⟨_, m⟩ | ⟨_, _, m⟩
    · exact S.f _ a m
    · exact S.f _ a m
  · rw [List.length_set]
    cases e : put (put ow i (ow ρ.length)) ρ.length [] j with
    | nil => exact (h e).elim
    | cons a r =>
      rcases lt j a (by rw [e]; simp) with ⟨e, _⟩ | ⟨_, l, _⟩
      · rw [e]; exact hi
      · exact l
  · intro hk
    rcases lt j a h with ⟨e1, m⟩ | ⟨e1, l1, m⟩ <;> rcases lt k a hk with ⟨e2, m2⟩ | ⟨e2, l2, m2⟩
    · exact hjk (e1.trans e2.symm)
    · exact S.d ρ.length k a (by omega) m m2
    · exact S.d j ρ.length a (by omega) m m2
    · exact S.d j k a hjk m m2
theorem SL.drop (S : SL K F Hk H ow (σ ++ [y]) (ρ ++ [x])) (hl : σ.length = ρ.length) : SL K F Hk H (put ow ρ.length []) σ ρ := by
  refine ⟨fun j y h => ?_, fun j a h => ?_, fun j h => ?_, fun j k a hjk h => ?_⟩
  · have lj := lt_get h
    obtain ⟨w, e1, e2⟩ := S.s j y (by rw [List.getElem?_append_left lj]; exact h)
    rw [List.getElem?_append_left (by rw [hl]; exact lj)] at e1
    exact ⟨w, e1, by rw [put_ne (Nat.ne_of_lt lj)]; exact e2⟩
  · by_cases e : j = ρ.length
    · rw [e, put_same] at h; cases h
    · rw [put_ne e] at h; exact S.f j a h
  · by_cases e : j = ρ.length
    · rw [e, put_same] at h; exact (h rfl).elim
    · rw [put_ne e] at h; have := S.w j h; simp at this; omega
  · by_cases e : j = ρ.length
    · rw [e, put_same] at h; cases h
    · rw [put_ne e] at h
      by_cases e2 : k = ρ.length
      · rw [e2, put_same]; simp
      · rw [put_ne e2]; exact S.d j k a hjk h
theorem RS.get (S : RS K F Hk H bp σ ρ) {i : Nat} {x : MV} (h : ρ[i]? = some (some x)) (hp : x.per = true) : ∃ v, σ[i]? = some (some v) ∧ RV K Hk x v := by
  obtain ⟨ow, s⟩ := S.ow
  obtain ⟨v, e, o⟩ := s.s i x h
  exact ⟨v, e, ((OV.per hp).mp o).2⟩
theorem RS.getOwn (S : RS K F Hk H bp σ ρ) {i : Nat} {xs : List MV} (h : ρ[i]? = some (some (.own xs))) : ∃ p vs, σ[i]? = some (some (.ref p)) ∧ H p = some (.lst vs) ∧ RVs K Hk xs vs ∧ Hk p = none ∧ F p = none := by
  obtain ⟨ow, s⟩ := S.ow
  obtain ⟨v, e, o⟩ := s.s i _ h
  obtain ⟨p, vs, e1, e2, e3, e4⟩ := OV.own.mp o
  have m : p ∈ ow i := by rw [e2]; simp
  exact ⟨p, vs, by rw [e, e1], e3, e4, (s.f i p m).1, (s.f i p m).2.1⟩
theorem RS.step (S : RS K F Hk H bp σ ρ) (e : Ex Hk Hk') (e' : Ex Hk' H') (k : ∀ a o, Hk a = none → H a = some o → H' a = some o ∧ Hk' a = none) : RS K F Hk' H' bp σ ρ := by
  obtain ⟨ow, s⟩ := S.ow
  refine ⟨S.len, e', fun a o h => (k a o (S.frk a o h) (S.fr a o h)).1, fun a o h => (k a o (S.frk a o h) (S.fr a o h)).2, ⟨ow, s.step e fun i a h => ?_⟩, S.bor⟩
  obtain ⟨f1, _, o, f2⟩ := s.f i a h
  exact ⟨((k a o f1 f2).1).trans f2.symm, (k a o f1 f2).2⟩
theorem RS.new (S : RS K F Hk H bp σ ρ) {p : Addr} {o : HO} (h : H p = none) : RS K F (upd Hk p o) (upd H p o) bp σ ρ :=
  S.step (Ex.new (S.ex.back h)) (S.ex.both h) fun a u hk ha => by
    have ne := ne_of_none ha h
    rw [upd_ne ne, upd_ne ne]
    exact ⟨ha, hk⟩
theorem RS.more (S : RS K F Hk H bp σ ρ) {p : Addr} {o : HO} (h : H p = none) : RS K F Hk (upd H p o) bp σ ρ :=
  S.step (Ex.refl _) (S.ex.mut (S.ex.back h)) fun a u hk ha => by
    rw [upd_ne (ne_of_none ha h)]
    exact ⟨ha, hk⟩
theorem RS.set (S : RS K F Hk H bp σ ρ) {i : Nat} {x : MV} {v : V} (hi : i < ρ.length) (r : RV K Hk x v) (hb : ∀ q ∈ bp, q.1 ≠ i) : RS K F Hk H bp (σ.set i (some v)) (ρ.set i (some x)) := by
  obtain ⟨ow, s⟩ := S.ow
  exact ⟨by simp [S.len], S.ex, S.fr, S.frk, ⟨_, s.set S.len hi r⟩, fun q hq => by rw [List.getElem?_set_ne (Ne.symm (hb q hq))]; exact S.bor q hq⟩
theorem RS.bor_app (S : RS K F Hk H bp σ ρ) (y : Option V) : ∀ q ∈ bp, (σ ++ [y])[q.1]? = some (some (.ref q.2)) := fun q hq => by
  have q1 := S.bor q hq
  rw [List.getElem?_append_left (lt_get q1)]; exact q1
theorem RS.push (S : RS K F Hk H bp σ ρ) {x : MV} {v : V} (r : RV K Hk x v) : RS K F Hk H bp (σ ++ [some v]) (ρ ++ [some x]) := by
  obtain ⟨ow, s⟩ := S.ow
  exact ⟨by simp [S.len], S.ex, S.fr, S.frk, ⟨_, s.push S.len r.ov (fun _ h => nomatch h) (fun _ _ h => nomatch h)⟩, S.bor_app _⟩
theorem RS.pushOwn (S : RS K F Hk H bp σ ρ) {p : Addr} {xs : List MV} {vs : List V} (h : H p = none) (r : RVs K Hk xs vs) : RS K F Hk (upd H p (.lst vs)) bp (σ ++ [some (.ref p)]) (ρ ++ [some (.own xs)]) := by
  obtain ⟨ow, s⟩ := S.ow
  have S' := S.more (o := .lst vs) h
  have s' : SL K F Hk (upd H p (.lst vs)) ow σ ρ := s.step (Ex.refl _) fun i a ha => by
    obtain ⟨f1, f2, o, f3⟩ := s.f i a ha
    exact ⟨upd_ne (ne_of_none f3 h), f1⟩
  have fp : F p = none := by
    cases e : F p with
    | none => rfl
    | some o => have := S.fr p o e; rw [h] at this; cases this
  refine ⟨by simp [S.len], S'.ex, S'.fr, S'.frk, ⟨_, s'.push S.len (A := [p]) (OV.own.mpr ⟨p, vs, rfl, rfl, upd_same, r⟩) (fun a ha => ?_) (fun i a ha => ?_)⟩, S.bor_app _⟩
  · simp at ha; subst ha; exact ⟨S.ex.back h, fp⟩
  · simp at ha; subst ha; exact s.fresh h i
theorem RS.take {v : V} {x : MV} (S : RS K F Hk H bp (σ ++ [some v]) (ρ ++ [some x])) {i : Nat} (hi : i < ρ.length) (hb : ∀ q ∈ bp, q.1 ≠ i ∧ q.1 < ρ.length) : RS K F Hk H bp (σ.set i (some v)) (ρ.set i (some x)) := by
  obtain ⟨ow, s⟩ := S.ow
  have hl : σ.length = ρ.length := by have := S.len; simpa using this
  refine ⟨by simp [hl], S.ex, S.fr, S.frk, ⟨_, s.take hl hi⟩, fun q hq => ?_⟩
  have q1 := S.bor q hq
  rw [List.getElem?_append_left (by rw [hl]; exact (hb q hq).2)] at q1
  rw [List.getElem?_set_ne (Ne.symm (hb q hq).1)]; exact q1
theorem RS.drop {y : Option V} {x : Option MV} (S : RS K F Hk H bp (σ ++ [y]) (ρ ++ [x])) (hb : ∀ q ∈ bp, q.1 < ρ.length) : RS K F Hk H bp σ ρ := by
  obtain ⟨ow, s⟩ := S.ow
  have hl : σ.length = ρ.length := by have := S.len; simpa using this
  refine ⟨hl, S.ex, S.fr, S.frk, ⟨_, s.drop hl⟩, fun q hq => ?_⟩
  have q1 := S.bor q hq
  rw [List.getElem?_append_left (by rw [hl]; exact hb q hq)] at q1
  exact q1
theorem RS.freeze (S : RS K F Hk H bp σ ρ) {i : Nat} {xs : List MV} (h : ρ[i]? = some (some (.own xs))) :
    ∃ p vs, σ[i]? = some (some (.ref p)) ∧ Ex Hk (upd Hk p (.lst vs)) ∧ RV K (upd Hk p (.lst vs)) (.lst xs) (.ref p) ∧ RS K F (upd Hk p (.lst vs)) H bp σ (ρ.set i (some (.lst xs))) := by
  obtain ⟨ow, s⟩ := S.ow
  obtain ⟨v, ev, o⟩ := s.s i _ h
  obtain ⟨p, vs, e1, e2, e3, e4⟩ := OV.own.mp o
  have m : p ∈ ow i := by rw [e2]; simp
  obtain ⟨f1, f2, _⟩ := s.f i p m
  have ex : Ex Hk (upd Hk p (.lst vs)) := Ex.new f1
  have rv : RV K (upd Hk p (.lst vs)) (.lst xs) (.ref p) := RV.lst.mpr ⟨p, vs, rfl, upd_same, e4.mono ex⟩
  have li := lt_get h
  refine ⟨p, vs, by rw [ev, e1], ex, rv, by simp [S.len], S.ex.updL e3, S.fr, fun a u ha => ?_, ⟨put ow i [], ?_⟩, S.bor⟩
  · rw [upd_ne (ne_of_none ha f2)]; exact S.frk a u ha
  · refine ⟨fun j y hj => ?_, fun j a hj => ?_, fun j hj => ?_, fun j k a hjk hj => ?_⟩
    · rcases set_get hj with ⟨rfl, e⟩ | ⟨ne, e⟩
      · cases e
        exact ⟨v, ev, by rw [put_same, e1]; exact rv.ov⟩
      · obtain ⟨u, u1, u2⟩ := s.s j y e
        exact ⟨u, u1, by rw [put_ne ne]; exact u2.move ex fun _ _ _ z => z⟩
    · by_cases e : j = i
      · rw [e, put_same] at hj; cases hj
      · rw [put_ne e] at hj
        obtain ⟨g1, g2⟩ := s.f j a hj
        refine ⟨?_, g2⟩
        rw [upd_ne (fun z => s.d j i a e hj (by rw [z]; exact m))]; exact g1
    · by_cases e : j = i
      · rw [e, put_same] at hj; exact (hj rfl).elim
      · rw [put_ne e] at hj; rw [List.length_set]; exact s.w j hj
    · by_cases e : j = i
      · rw [e, put_same] at hj; cases hj
      · rw [put_ne e] at hj
        by_cases e2 : k = i
        · rw [e2, put_same]; simp
        · rw [put_ne e2]; exact s.d j k a hjk hj
theorem RS.change (S : RS K F Hk H bp σ ρ) {i : Nat} {xs ys : List MV} (h : ρ[i]? = some (some (.own xs))) :
    ∃ p vs, σ[i]? = some (some (.ref p)) ∧ H p = some (.lst vs) ∧ RVs K Hk xs vs ∧ ∀ ws, RVs K Hk ys ws → RS K F Hk (upd H p (.lst ws)) bp σ (ρ.set i (some (.own ys))) := by
  obtain ⟨ow, s⟩ := S.ow
  obtain ⟨v, ev, o⟩ := s.s i _ h
  obtain ⟨p, vs, e1, e2, e3, e4⟩ := OV.own.mp o
  have m : p ∈ ow i := by rw [e2]; simp
  obtain ⟨f1, f2, _⟩ := s.f i p m
  refine ⟨p, vs, by rw [ev, e1], e3, e4, fun ws r => ⟨by simp [S.len], S.ex.mut f1, S.fr.mut f2, S.frk, ⟨ow, ?_⟩, S.bor⟩⟩
  refine ⟨fun j y hj => ?_, fun j a hj => ?_, fun j hj => by rw [List.length_set]; exact s.w j hj, s.d⟩
  · rcases set_get hj with ⟨rfl, e⟩ | ⟨ne, e⟩
    · cases e
      exact ⟨v, ev, OV.own.mpr ⟨p, ws, e1, e2, upd_same, r⟩⟩
    · obtain ⟨u, u1, u2⟩ := s.s j y e
      exact ⟨u, u1, u2.move (Ex.refl _) fun a ha o ho => by rw [upd_ne (fun z => s.d j i a ne ha (by rw [z]; exact m))]; exact ho⟩
  · obtain ⟨g1, g2, o, g3⟩ := s.f j a hj
    by_cases e : a = p
    · subst e; exact ⟨g1, g2, _, upd_same⟩
    · exact ⟨g1, g2, o, by rw [upd_ne e]; exact g3⟩
end
end Tm
set_option Elab.async false
set_option linter.all false
set_option maxRecDepth 100000
set_option maxHeartbeats 2000000
namespace Tm
open PySem L2
open Evl (Ex ex_rd ex_l ex_t)
structure Ct where
  K : PySem.W.Frag
  mg : Str → Option Value
  W : WX
  bs : List Nat
  J : Hp → List (Nat × Addr) → Prop
  Jm : ∀ F F1 bp, Ex F F1 → J F bp → J F1 bp
def XFs (K : PySem.W.Frag) (H : Hp) : List (Str × MV) → List (Str × V) → Prop
  | [], vs => vs = []
  | (n, x) :: xs, vs => ∃ v r, vs = (n, v) :: r ∧ RV K H x v ∧ XFs K H xs r
def ExR (K : PySem.W.Frag) (mg : Str → Option Value) (H : Hp) (e : MX) (cls : Value) (d : Option Addr) : Prop :=
  ∃ C, mg e.cls = some (.ref C) ∧ cls = .ref C ∧ ((e.fs = [] ∧ d = none) ∨ ∃ dx vfs, d = some dx ∧ H dx = some (.xd vfs) ∧ XFs K H e.fs vfs)
theorem XFs.mono {K : PySem.W.Frag} {H H' : Hp} (e : Ex H H') : ∀ {xs : List (Str × MV)} {vs : List (Str × V)}, XFs K H xs vs → XFs K H' xs vs
  | [], _, h => h
  | (n, x) :: xs, vs, h => by
    obtain ⟨v, r, e1, e2, e3⟩ := h
    exact ⟨v, r, e1, RV.mono e _ _ e2, XFs.mono e e3⟩
theorem ExR.mono {K : PySem.W.Frag} {mg : Str → Option Value} {H H' : Hp} {e : MX} {cls : Value} {d : Option Addr} (x : Ex H H') (h : ExR K mg H e cls d) : ExR K mg H' e cls d := by
  obtain ⟨C, h1, h2, h3⟩ := h
  refine ⟨C, h1, h2, ?_⟩
  rcases h3 with h3 | ⟨dx, vfs, a, b, c⟩
  · exact .inl h3
  · exact .inr ⟨dx, vfs, a, x _ _ b, c.mono x⟩
abbrev ME := Env → Res (MV × Env)
abbrev MT := Env → Res (Bool × Env)
abbrev MA := Env → Res (List MV × Env)
abbrev MS := Env → Res (Fl × Env)
def Wish (c : Ct) (F Hk : Hp) (bp : List (Nat × Addr)) (σ : St) (e : MX) (ρ : Env) : Prop :=
  ∀ Hk' H' cls d, Ex Hk Hk' → RS c.K F Hk' H' bp σ ρ → ExR c.K c.mg Hk' e cls d → c.W cls d σ H'
def okE (c : Ct) (F Hk : Hp) (bp : List (Nat × Addr)) (σ : St) (Q : VK) : Res (MV × Env) → Prop
  | .ok (x, ρ') => ∀ Hk' H' v, Ex Hk Hk' → RS c.K F Hk' H' bp σ ρ' → RV c.K Hk' x v → Q v H'
  | .exc e ρ' => Wish c F Hk bp σ e ρ'
  | .stuck => False
def okO (c : Ct) (F Hk : Hp) (bp : List (Nat × Addr)) (σ : St) (Q : VK) : Res (MV × Env) → Prop
  | .ok (x, ρ') => ∀ Hk' H' v, Ex Hk Hk' → RS c.K F Hk' H' bp (σ ++ [some v]) (ρ' ++ [some x]) → Q v H'
  | .exc e ρ' => Wish c F Hk bp σ e ρ'
  | .stuck => False
def okT (c : Ct) (F Hk : Hp) (bp : List (Nat × Addr)) (σ : St) (Q : Bool → Hp → Prop) : Res (Bool × Env) → Prop
  | .ok (x, ρ') => ∀ Hk' H', Ex Hk Hk' → RS c.K F Hk' H' bp σ ρ' → Q x H'
  | .exc e ρ' => Wish c F Hk bp σ e ρ'
  | .stuck => False
def okA (c : Ct) (F Hk : Hp) (bp : List (Nat × Addr)) (σ : St) (Q : List V → Hp → Prop) : Res (List MV × Env) → Prop
  | .ok (xs, ρ') => ∀ Hk' H' vs, Ex Hk Hk' → RS c.K F Hk' H' bp σ ρ' → RVs c.K Hk' xs vs → Q vs H'
  | .exc e ρ' => Wish c F Hk bp σ e ρ'
  | .stuck => False
def okS (c : Ct) (F Hk : Hp) (bp : List (Nat × Addr)) (D : Ends) : Res (Fl × Env) → Prop
  | .ok (.nx, ρ') => ∀ Hk' H' σ', Ex Hk Hk' → RS c.K F Hk' H' bp σ' ρ' → D.nx σ' H'
  | .ok (.br, ρ') => ∀ Hk' H' σ', Ex Hk Hk' → RS c.K F Hk' H' bp σ' ρ' → D.bk σ' H'
  | .ok (.ct, ρ') => ∀ Hk' H' σ', Ex Hk Hk' → RS c.K F Hk' H' bp σ' ρ' → D.ct σ' H'
  | .ok (.rt x, ρ') => ∀ Hk' H' σ' v, Ex Hk Hk' → (∀ q ∈ bp, q.1 < σ'.length) → RS c.K F Hk' H' bp (σ' ++ [some v]) (ρ' ++ [some x]) → D.rt v H'
  | .exc e ρ' => ∀ Hk' H' σ' cls d, Ex Hk Hk' → RS c.K F Hk' H' bp σ' ρ' → ExR c.K c.mg Hk' e cls d → c.W cls d σ' H'
  | .stuck => False
def At (c : Ct) (F Hk H : Hp) (bp : List (Nat × Addr)) (σ : St) (ρ : Env) : Prop := RS c.K F Hk H bp σ ρ ∧ bp.map (·.1) = c.bs ∧ c.J F bp
def rdE (c : Ct) (m : ME) : TE := fun σ H Q => ∃ F Hk bp ρ, At c F Hk H bp σ ρ ∧ okE c F Hk bp σ Q (m ρ)
def rdO (c : Ct) (m : ME) : TE := fun σ H Q => ∃ F Hk bp ρ, At c F Hk H bp σ ρ ∧ okO c F Hk bp σ Q (m ρ)
def rdT (c : Ct) (m : MT) : TT := fun σ H Q => ∃ F Hk bp ρ, At c F Hk H bp σ ρ ∧ okT c F Hk bp σ Q (m ρ)
def rdA (c : Ct) (m : MA) : TA := fun σ H Q => ∃ F Hk bp ρ, At c F Hk H bp σ ρ ∧ okA c F Hk bp σ Q (m ρ)
def rdS (c : Ct) (m : MS) : TS := fun D σ H => ∃ F Hk bp ρ, At c F Hk H bp σ ρ ∧ okS c F Hk bp D (m ρ)
section
variable {c : Ct} {F Hk Hk' H H' : Hp} {bp : List (Nat × Addr)} {σ : St} {ρ : Env}
theorem Wish.mono {e : MX} (x : Ex Hk Hk') (h : Wish c F Hk bp σ e ρ) : Wish c F Hk' bp σ e ρ := fun Hk2 H2 cls d x2 => h Hk2 H2 cls d (x.trans x2)
theorem okE.mono {Q : VK} {r : Res (MV × Env)} (x : Ex Hk Hk') (h : okE c F Hk bp σ Q r) : okE c F Hk' bp σ Q r := by
  cases r with
  | ok a => exact fun Hk2 H2 v x2 => h Hk2 H2 v (x.trans x2)
  | exc e ρ => exact Wish.mono x h
  | stuck => exact h
theorem okO.mono {Q : VK} {r : Res (MV × Env)} (x : Ex Hk Hk') (h : okO c F Hk bp σ Q r) : okO c F Hk' bp σ Q r := by
  cases r with
  | ok a => exact fun Hk2 H2 v x2 => h Hk2 H2 v (x.trans x2)
  | exc e ρ => exact Wish.mono x h
  | stuck => exact h
theorem okT.mono {Q : Bool → Hp → Prop} {r : Res (Bool × Env)} (x : Ex Hk Hk') (h : okT c F Hk bp σ Q r) : okT c F Hk' bp σ Q r := by
  cases r with
  | ok a => exact fun Hk2 H2 x2 => h Hk2 H2 (x.trans x2)
  | exc e ρ => exact Wish.mono x h
  | stuck => exact h
theorem okA.mono {Q : List V → Hp → Prop} {r : Res (List MV × Env)} (x : Ex Hk Hk') (h : okA c F Hk bp σ Q r) : okA c F Hk' bp σ Q r := by
  cases r with
  | ok a => exact fun Hk2 H2 v x2 => h Hk2 H2 v (x.trans x2)
  | exc e ρ => exact Wish.mono x h
  | stuck => exact h
theorem okS.mono {D : Ends} {r : Res (Fl × Env)} (x : Ex Hk Hk') (h : okS c F Hk bp D r) : okS c F Hk' bp D r := by
  cases r with
  | ok a =>
    obtain ⟨f, ρ'⟩ := a
    cases f with
    | nx => exact fun Hk2 H2 σ' x2 => h Hk2 H2 σ' (x.trans x2)
    | br => exact fun Hk2 H2 σ' x2 => h Hk2 H2 σ' (x.trans x2)
    | ct => exact fun Hk2 H2 σ' x2 => h Hk2 H2 σ' (x.trans x2)
    | rt y => exact fun Hk2 H2 σ' v x2 => h Hk2 H2 σ' v (x.trans x2)
  | exc e ρ' => exact fun Hk2 H2 σ' cls d x2 => h Hk2 H2 σ' cls d (x.trans x2)
  | stuck => exact h
def Res.bind {α β : Type} (r : Res (α × Env)) (f : α → Env → Res (β × Env)) : Res (β × Env) :=
  match r with
  | .ok (x, ρ) => f x ρ
  | .exc e ρ => .exc e ρ
  | .stuck => .stuck
end
theorem PEw {X : Cx} {e : Expr} {t t' : TE} (h : PE X e t) (w : ∀ σ H Q, t' σ H Q → t σ H Q) : PE X e t' := ⟨fun pins s σ H Q I q => h.run pins s σ H Q I (w σ H Q q)⟩
theorem PTw {X : Cx} {e : Expr} {t t' : TT} (h : PT X e t) (w : ∀ σ H Q, t' σ H Q → t σ H Q) : PT X e t' := ⟨fun pins s σ H Q I q => h.run pins s σ H Q I (w σ H Q q)⟩
theorem PWw {X : Cx} {e : Expr} {t t' : TT} (h : PW X e t) (w : ∀ σ H Q, t' σ H Q → t σ H Q) : PW X e t' := ⟨fun wh pins s σ H Q I q => h.run wh pins s σ H Q I (w σ H Q q)⟩
theorem PAw {X : Cx} {e : List Expr} {t t' : TA} (h : PA X e t) (w : ∀ σ H Q, t' σ H Q → t σ H Q) : PA X e t' := ⟨fun pos pins s σ H Q I q => h.run pos pins s σ H Q I (w σ H Q q)⟩
theorem PSw {X : Cx} {e : Stmt} {t t' : TS} (h : PS X e t) (w : ∀ D σ H, t' D σ H → t D σ H) : PS X e t' := ⟨fun pins s σ H D I q => h.run pins s σ H D I (w D σ H q)⟩
theorem PSsw {X : Cx} {e : List Stmt} {t t' : TS} (h : PSs X e t) (w : ∀ D σ H, t' D σ H → t D σ H) : PSs X e t' := ⟨fun pins s σ H D I q => h.run pins s σ H D I (w D σ H q)⟩
section
variable {X : Cx} {c : Ct}
def mVar (i : Nat) : ME := fun ρ => match ρ[i]? with
  | some (some (.own xs)) => .ok (.lst xs, ρ.set i (some (.lst xs)))
  | some (some (.obj _ _)) => .stuck
  | some (some (.dow _ _)) => .stuck
  | some (some (.dot _ _)) => .stuck
  | some (some x) => .ok (x, ρ)
  | _ => .stuck
def mC (x : MV) : ME := fun ρ => .ok (x, ρ)
theorem rd_var {i : Nat} {σ : St} {H : Hp} {Q : VK} (h : rdE c (mVar i) σ H Q) : tVar i σ H Q := by
  obtain ⟨F, Hk, bp, ρ, ⟨S, _⟩, h⟩ := h
  have pl : ∀ x : MV, x.per = true → ρ[i]? = some (some x) → (∀ Hk' H' v, Ex Hk Hk' → RS c.K F Hk' H' bp σ ρ → RV c.K Hk' x v → Q v H') → tVar i σ H Q := fun x px e q => by
    obtain ⟨v, ev, r⟩ := S.get e px
    exact ⟨v, ev, q Hk H v (Ex.refl _) S r⟩
  unfold mVar at h
  split at h
  · rename_i xs e
    obtain ⟨p, vs, e1, ex, r, S'⟩ := S.freeze e
    exact ⟨_, e1, h _ _ _ ex S' r⟩
  · exact h.elim
  · exact h.elim
  · exact h.elim
  · rename_i x n1 n2 n3 n4 e
    refine pl x ?_ e h
    cases x <;> first | rfl | (exfalso; first | exact n1 _ rfl | exact n2 _ _ rfl | exact n3 _ _ rfl | exact n4 _ _ rfl)
  · exact h.elim
theorem me_var {i : Nat} {x : Str} {pos : Pos} (hN : X.N[i]? = some x) (hv : Vis X.env.scope x) (hd : (x == ("__debug__" : Str)) = false := by decide) (hcd : (x == ("__classdict__" : Str)) = false := by decide) : PE X (.Name x pos) (rdE c (mVar i)) :=
  PEw (pe_var hN hv hd hcd) fun _ _ _ h => rd_var h
theorem rd_c {x : MV} {v : V} (r : ∀ H, RV c.K H x v) {σ : St} {H : Hp} {Q : VK} (h : rdE c (mC x) σ H Q) : tC v σ H Q := by
  obtain ⟨F, Hk, bp, ρ, ⟨S, _⟩, h⟩ := h
  exact h Hk H v (Ex.refl _) S (r _)
theorem me_int {i j pos} : PE X (.Constant (.int i) j pos) (rdE c (mC (.int i))) := PEw pe_int fun _ _ _ h => rd_c (fun _ => RV.int.mpr rfl) h
theorem me_bl {b j pos} : PE X (.Constant (.bool b) j pos) (rdE c (mC (.bl b))) := PEw pe_bl fun _ _ _ h => rd_c (fun _ => RV.bl.mpr rfl) h
theorem me_non {j pos} : PE X (.Constant .none j pos) (rdE c (mC .non)) := PEw pe_non fun _ _ _ h => rd_c (fun _ => RV.non.mpr rfl) h
theorem me_str {x j pos} : PE X (.Constant (.str x) j pos) (rdE c (mC (.str x))) := PEw pe_str fun _ _ _ h => rd_c (fun _ => RV.str.mpr rfl) h
def mOp (f : MV → MV → Option MV) (a b : ME) : ME := fun ρ => (a ρ).bind fun x ρ1 => (b ρ1).bind fun y ρ2 => match f x y with | some z => .ok (z, ρ2) | none => .stuck
def OpS (K : PySem.W.Frag) (f : MV → MV → Option MV) (r : R2) : Prop := ∀ (x y z : MV) (v w : V) (Hk H : Hp) (Q : VK), f x y = some z → Ex Hk H → RV K Hk x v → RV K Hk y w → (∀ u, RV K Hk z u → Q u H) →
  (∀ p o, H p = none → RV K (upd Hk p o) z (.ref p) → Q (.ref p) (upd H p o)) → r v w H Q
theorem rd_op {f : MV → MV → Option MV} {r : R2} (o : OpS c.K f r) {a b : ME} {σ : St} {H : Hp} {Q : VK} (h : rdE c (mOp f a b) σ H Q) : tOp r (rdE c a) (rdE c b) σ H Q := by
  obtain ⟨F, Hk, bp, ρ, ⟨S, eb⟩, h⟩ := h
  refine ⟨F, Hk, bp, ρ, ⟨S, eb⟩, ?_⟩
  unfold mOp at h
  cases ea : a ρ with
  | stuck => rw [ea] at h; exact h.elim
  | exc e ρ' => rw [ea] at h; exact h
  | ok p =>
    obtain ⟨x, ρ1⟩ := p
    rw [ea] at h
    intro Hk1 H1 v x1 S1 r1
    refine ⟨F, Hk1, bp, ρ1, ⟨S1, eb⟩, ?_⟩
    have h : okE c F Hk bp σ Q ((b ρ1).bind fun y ρ2 => match f x y with | some z => .ok (z, ρ2) | none => .stuck) := h
    cases e2 : b ρ1 with
    | stuck => rw [e2] at h; exact h.elim
    | exc e ρ' => rw [e2] at h; exact Wish.mono x1 h
    | ok p =>
      obtain ⟨y, ρ2⟩ := p
      rw [e2] at h
      intro Hk2 H2 w x2 S2 r2
      have h : okE c F Hk bp σ Q (match f x y with | some z => .ok (z, ρ2) | none => .stuck) := h
      cases ez : f x y with
      | none => rw [ez] at h; exact h.elim
      | some z =>
        rw [ez] at h
        refine o x y z v w Hk2 H2 Q ez S2.ex (RV.mono x2 _ _ r1) r2 (fun u ru => h Hk2 H2 u (x1.trans x2) S2 ru) fun p ob hp ru => ?_
        exact h _ _ _ ((x1.trans x2).trans (Ex.new (S2.ex.back hp))) (S2.new hp) ru
theorem me_op {op : Operator} {f : MV → MV → Option MV} {r : R2} {a b : Expr} {ma mb : ME} {pos : Pos} (ho : OpR X (binaryOp op) r) (o : OpS c.K f r) (ha : PE X a (rdE c ma)) (hb : PE X b (rdE c mb)) : PE X (.BinOp a op b pos) (rdE c (mOp f ma mb)) :=
  PEw (pe_op ho ha hb) fun _ _ _ h => rd_op o h
theorem me_cmp {op : CmpOp} {f : MV → MV → Option MV} {r : R2} {a b : Expr} {ma mb : ME} {pos : Pos} (ho : OpR X (compareOp op) r) (o : OpS c.K f r) (ha : PE X a (rdE c ma)) (hb : PE X b (rdE c mb)) (hm : behindInMarks op b = false) : PE X (.Compare a [op] [b] pos) (rdE c (mOp f ma mb)) :=
  PEw (pe_cmpR ho ha hb hm) fun _ _ _ h => rd_op o h
end
end Tm
set_option Elab.async false
set_option linter.all false
set_option maxRecDepth 100000
set_option maxHeartbeats 2000000
namespace Tm
open PySem L2
open Evl (Ex ex_rd ex_l ex_t)
def szOk (n : Nat) : Bool := decide (n ≤ sizeLine)
def fAdd : MV → MV → Option MV
  | .int i, .int j => some (.int (i + j))
  | .int i, .bl b => some (.int (i + PyProof.Rows.b2i b))
  | .str a, .str b => if szOk (a.length + b.length) then some (.str (a ++ b)) else none
  | .lst a, .lst b => if szOk (a.length + b.length) then some (.lst (a ++ b)) else none
  | .tup a, .tup b => if szOk (a.length + b.length) then some (.tup (a ++ b)) else none
  | _, _ => none
def fSub : MV → MV → Option MV
  | .int i, .int j => some (.int (i - j))
  | _, _ => none
def mulOk (i j : Int) : Bool := (decide (-(2 ^ 64) < i) && decide (i < 2 ^ 64)) || (decide (-(2 ^ 64) < j) && decide (j < 2 ^ 64)) || decide (i.natAbs.log2 + j.natAbs.log2 < 1000000)
instance (i j : Int) : Decidable (CMulW i j) := inferInstanceAs (Decidable (i.natAbs.log2 + j.natAbs.log2 < 1000000))
def repS (a : Str) (k : Int) : Str := ⟨(List.replicate k.toNat a.cps.toList).flatten.toArray⟩
def fMul : MV → MV → Option MV
  | .int i, .int j => if mulOk i j then some (.int (i * j)) else none
  | .tup a, .int k => if decide (-(2 ^ 63) ≤ k) && decide (k < 2 ^ 63) && (decide (k = 1) || a.isEmpty || (decide (2 ≤ k) && decide (k ≤ 1000) && decide (a.length ≤ 1000))) then some (.tup (List.replicate k.toNat a).flatten) else none
  | .str a, .int k => if decide (-(2 ^ 63) ≤ k) && decide (k < 2 ^ 63) && szOk (a.length * k.toNat) then some (.str (repS a k)) else none
  | .lst a, .int k => if decide (-(2 ^ 63) ≤ k) && decide (k < 2 ^ 63) && szOk (a.length * k.toNat) then some (.lst (List.replicate k.toNat a).flatten) else none
  | _, _ => none
def divOk (j : Int) : Bool := (decide (j ≠ 0) && decide (j.natAbs < 1073741824)) || (decide (0 < j) && decide (j.natAbs.log2 < 9000))
def fDiv : MV → MV → Option MV
  | .int i, .int j => if divOk j then some (.int (i.fdiv j)) else none
  | _, _ => none
def fMod : MV → MV → Option MV
  | .int i, .int j => if decide (j ≠ 0) then some (.int (i.fmod j)) else none
  | _, _ => none
def fPow : MV → MV → Option MV
  | .int i, .int j => if decide (0 ≤ j) && decide (j ≤ 1000000) && decide (i.natAbs < 2 ^ 64) then some (.int (i ^ j.toNat)) else none
  | _, _ => none
def fAnd : MV → MV → Option MV
  | .int i, .int j => some (.int (Builtin.bitAnd i j))
  | _, _ => none
def fOr : MV → MV → Option MV
  | .int i, .int j => some (.int (Builtin.bitOr i j))
  | _, _ => none
def fLt : MV → MV → Option MV
  | .int i, .int j => some (.bl (decide (i < j)))
  | _, _ => none
def fLe : MV → MV → Option MV
  | .int i, .int j => some (.bl (decide (i ≤ j)))
  | _, _ => none
def fGt : MV → MV → Option MV
  | .int i, .int j => some (.bl (decide (j < i)))
  | _, _ => none
def fGe : MV → MV → Option MV
  | .int i, .int j => some (.bl (decide (j ≤ i)))
  | _, _ => none
def MV.isN : MV → Bool
  | .non => true
  | .raw w => decide (w = .non)
  | _ => false
def fIsN : MV → MV → Option MV
  | x, .non => some (.bl x.isN)
  | _, _ => none
def scalM : MV → MV → Bool
  | .non, .non => true | .non, .int _ => true | .int _, .non => true | .non, .bl _ => true | .bl _, .non => true | .non, .str _ => true | .str _, .non => true
  | .int _, .int _ => true | .bl _, .bl _ => true | .str _, .str _ => true
  | .int _, .str _ => true | .str _, .int _ => true | .bl _, .str _ => true | .str _, .bl _ => true
  | _, _ => false
def sameM : MV → MV → Bool
  | .non, .non => true
  | .int i, .int j => decide (i = j)
  | .bl i, .bl j => decide (i = j)
  | .str i, .str j => decide (i = j)
  | _, _ => false
mutual
def toD : MV → Option PyData
  | .non => some .none
  | .bl b => some (.bool b)
  | .int i => some (.int i)
  | .str x => some (.str x)
  | .tup xs => (toDs xs).map .tuple
  | .lst xs => (toDs xs).map .list
  | _ => none
def toDs : List MV → Option (List PyData)
  | [] => some []
  | x :: xs => match toD x, toDs xs with
    | some d, some ds => some (d :: ds)
    | _, _ => none
end
def eqM (x y : MV) : Option Bool :=
  if scalM x y then some (sameM x y) else
  match toD x, toD y with
  | some d, some e => if SeqAt.shaped d && SeqAt.shaped e then some (PyData.eqv d e) else none
  | _, _ => none
def fEq (x y : MV) : Option MV := (eqM x y).map .bl
def fNe (x y : MV) : Option MV := (eqM x y).map fun b => .bl (!b)
section
variable {K : PySem.W.Frag}
def rAddM (K : PySem.W.Frag) : R2 := fun x y H Q => (rI0 fun i j => .int (i + j)) x y H Q ∨ (∃ i k, x = .int i ∧ y = .bl k ∧ Q (.int (i + PyProof.Rows.b2i k)) H) ∨ (∃ i j, x = .str i ∧ y = .str j ∧ i.length + j.length ≤ sizeLine ∧ Q (.str (i ++ j)) H) ∨ rCat x y H Q ∨ rCatA K x y H Q
theorem op_addM {X : Cx} : OpR X (binaryOp .Add) (rAddM X.K) := OpR.or op_add (OpR.or op_add_ib (OpR.or op_add_str (OpR.or op_cat op_catA)))
theorem szOk_iff {n : Nat} : szOk n = true ↔ n ≤ sizeLine := by unfold szOk; simp
theorem os_add : OpS K fAdd (rAddM K) := by
  intro x y z v w Hk H Q e ex r1 r2 q qn
  unfold fAdd at e
  split at e
  · cases e
    exact .inl ⟨_, _, RV.int.mp r1, RV.int.mp r2, q _ (RV.int.mpr rfl)⟩
  · cases e
    exact .inr (.inl ⟨_, _, RV.int.mp r1, RV.bl.mp r2, q _ (RV.int.mpr rfl)⟩)
  · split at e
    · rename_i a b h
      cases e
      exact .inr (.inr (.inl ⟨_, _, RV.str.mp r1, RV.str.mp r2, szOk_iff.mp h, q _ (RV.str.mpr rfl)⟩))
    · cases e
  · split at e
    · rename_i a b h
      cases e
      obtain ⟨p1, vs, rfl, h1, s1⟩ := RV.lst.mp r1
      obtain ⟨p2, ws, rfl, h2, s2⟩ := RV.lst.mp r2
      refine .inr (.inr (.inr (.inl ⟨p1, p2, vs, ws, rfl, rfl, ex _ _ h1, ex _ _ h2, ?_, fun p hp => qn p _ hp ?_⟩)))
      · rw [s1.length, s2.length]; exact szOk_iff.mp h
      · have z := Ex.new (o := .lst (vs ++ ws)) (ex.back hp)
        exact RV.lst.mpr ⟨p, _, rfl, upd_same, (s1.append s2).mono z⟩
    · cases e
  · split at e
    · rename_i a b h
      cases e
      obtain ⟨p1, vs, rfl, h1, s1⟩ := RV.tup.mp r1
      obtain ⟨p2, ws, rfl, h2, s2⟩ := RV.tup.mp r2
      refine .inr (.inr (.inr (.inr ⟨p1, p2, vs, ws, rfl, rfl, ex_t ex h1, ex_t ex h2, ?_, fun e0 => ?_, fun e0 e1 => ?_, fun e0 e1 p hp => qn p _ hp ?_⟩)))
      · rw [s1.length, s2.length]; exact szOk_iff.mp h
      · have z := s1.append s2
        rw [e0, List.nil_append] at z
        exact q _ (RV.tup.mpr ⟨p2, ws, rfl, h2, z⟩)
      · have z := s1.append s2
        rw [e1, List.append_nil] at z
        exact q _ (RV.tup.mpr ⟨p1, vs, rfl, h1, z⟩)
      · have z := Ex.new (o := .tup (vs ++ ws)) (ex.back hp)
        exact RV.tup.mpr ⟨p, _, rfl, SqT.of upd_same, (s1.append s2).mono z⟩
    · cases e
  · cases e
theorem os_sub : OpS K fSub (rI0 fun i j => .int (i - j)) := by
  intro x y z v w Hk H Q e ex r1 r2 q qn
  unfold fSub at e
  split at e
  · cases e; exact ⟨_, _, RV.int.mp r1, RV.int.mp r2, q _ (RV.int.mpr rfl)⟩
  · cases e
open PySem.Spec PyProof.Rows in
theorem tuple_mulSame (l : Addr) (items : Array Value) (n : Nat) (dd : Option Addr) (sl : Array (Option Value)) (x : Int) (u : Tok) (c0 : (decide (x < -(2 ^ 63)) || decide (x ≥ 2 ^ 63)) = false) (c1 : (items.isEmpty || x == 1) = true) :
    Meets (Builtin.«tuple.__mul__» ⟨[.ref l, .int x u], []⟩) (fun _ R s => s.heap.get? l = some { cls := .type "tuple", dict := dd, data := .seq items n, slots := sl } ∧ R (.ok (.ret (Value.ref l))) s) :=
  .of_wp fun prog w A R s h => by
    obtain ⟨hp, g, d, tk, os⟩ := s
    obtain ⟨hl, h⟩ := h
    have f1 := AutoSeq1.idx_int
    wp_walk using wpAny_loadPart' hl
    repeat (first
      | (refine wpAny_ite_false (decide_eq_false (by rw [c0]; exact Bool.false_ne_true)) ?_; wp_walk using wpAny_loadPart' hl)
      | (refine wpAny_ite_true (decide_eq_true c1) ?_; wp_walk using wpAny_loadPart' hl))
    exact ⟨_, rfl, h⟩
def rRepTS (K : PySem.W.Frag) : R2 := fun x y H Q => ∃ l k xs, x = .ref l ∧ y = .int k ∧ SqT K H l xs ∧ (k = 1 ∨ xs = []) ∧ -(2 ^ 63) ≤ k ∧ k < 2 ^ 63 ∧ Q (.ref l) H
open PySem.Spec PyProof.Rows in
theorem op_repTS {X : Cx} : OpR X (binaryOp .Mult) (rRepTS X.K) := by
  intro pins s σ H x y v u Q I rx ry h
  obtain ⟨l, k, xs, rfl, rfl, hT, hs, h1, h2, q⟩ := h
  cases rx
  obtain ⟨t, rfl⟩ := ry
  obtain ⟨its, r, ⟨⟨cls, dd, data, sl⟩, ho, hc, n, hd⟩, _⟩ := I.tuple hT
  simp only at hc hd
  subst hc hd
  have hle : its.length = xs.length := r.length.symm
  have c0 : (decide (k < -(2 ^ 63)) || decide (k ≥ 2 ^ 63)) = false := by
    rw [decide_eq_false (by omega), decide_eq_false (by omega)] <;> rfl
  have c1 : (its.toArray.isEmpty || k == 1) = true := by
    rw [Bool.or_eq_true]
    rcases hs with rfl | rfl
    · exact .inr rfl
    · have : its = [] := List.length_eq_zero_iff.mp hle
      subst this
      exact .inl rfl
  exact wpAny_binaryOp_repeat_ref (T := "tuple") (U := "int") (by decide) ⟨_, ho, rfl⟩ (fun s' => typeIs_int s' k t) noFill_tuple_mul F.fills_int_mul F.slot_int_rmul repeat_tuple F.slot_int_index.lookup
    (call_meets F.slot_int_rmul (typeIs_int s k t) F.entry_int_rmul (F.args_int_rmul_2 _ _) (int_rmul_tuple k t l its.toArray n dd sl)
      ⟨ho, rfl, ⟨_, ho, rfl⟩, call_meets F.slot_tuple_mul ⟨_, ho, rfl⟩ F.entry_tuple_mul (F.args_tuple_mul_2 _ _) (tuple_mulSame l its.toArray n dd sl k t c0 c1) ⟨ho, ⟨.ref l, H, I, rfl, q⟩⟩⟩)
def rRepS : R2 := fun x y H Q => ∃ a k, x = .str a ∧ y = .int k ∧ -(2 ^ 63) ≤ k ∧ k < 2 ^ 63 ∧ a.length * k.toNat ≤ sizeLine ∧ Q (.str (repS a k)) H
theorem rep_foldl (l : Array Nat) : ∀ (n : Nat) (acc : Array Nat), (List.replicate n l).foldl (· ++ ·) acc = (acc.toList ++ (List.replicate n l.toList).flatten).toArray
  | 0, acc => by simp
  | n + 1, acc => by
    rw [List.replicate_succ, List.foldl_cons, rep_foldl l n, List.replicate_succ, List.flatten_cons]
    simp
theorem op_repS {X : Cx} : OpR X (binaryOp .Mult) rRepS := by
  intro pins s σ H x y v u Q I rx ry h
  obtain ⟨a, k, rfl, rfl, h1, h2, hz, q⟩ := h
  obtain ⟨t, rfl⟩ := rx
  obtain ⟨t', rfl⟩ := ry
  have sz : sizeLine = 16777216 := rfl
  refine PySem.P.mul_str ?_ ?_ ?_ ?_
  · rw [decide_eq_false (by omega), decide_eq_false (by omega)]; rfl
  · intro h3 h4 h5
    have hk : 1 < k := by
      have : (k == 1) = false := by cases e : (k == 1) <;> simp [e] at h4 ⊢
      have := beq_eq_false_iff_ne.mp this
      omega
    have e1 : ((a.length : Int) * k) ≤ 16777216 := by
      rw [sz] at hz
      have : ((a.length * k.toNat : Nat) : Int) ≤ 16777216 := by omega
      rw [Int.natCast_mul, Int.toNat_of_nonneg (by omega)] at this
      exact this
    have e2 : (a.length : Int) ≤ (2 ^ 63 - 1) / k := by
      refine (Int.le_ediv_iff_mul_le (by omega)).mpr ?_
      omega
    omega
  · intro h3 h4
    unfold Builtin.Str.tooLong
    exact decide_eq_false (by omega)
  · split
    · rename_i h3
      refine ⟨by decide, .str (repS a k), H, I.tok _, ⟨s.toks, ?_⟩, q⟩
      have : k.toNat = 0 := by omega
      unfold repS
      rw [this]; rfl
    · split
      · rename_i h3 h4
        refine ⟨.str (repS a k), H, I, ⟨t, ?_⟩, q⟩
        have : repS a k = a := by
          unfold repS
          rw [Bool.or_eq_true] at h4
          rcases h4 with h4 | h4
          · have : k = 1 := by simpa using h4
            subst this
            show (⟨([a.cps.toList].flatten).toArray⟩ : Str) = a
            simp
          · have e0 : a.cps.toList = [] := by
              have : a.length = 0 := by simpa using h4
              exact List.length_eq_zero_iff.mp (by rw [Array.length_toList]; exact this)
            rw [e0]
            have : ∀ n : Nat, (List.replicate n ([] : List Nat)).flatten = [] := fun n => by simp
            rw [this]
            cases a with
            | mk cps =>
              simp only at e0
              rw [← e0]
        rw [this]
      · rename_i h3 h4
        have e1 : (⟨(List.replicate k.toNat a.cps).foldl (· ++ ·) #[]⟩ : Str) = repS a k := by
          unfold repS
          rw [rep_foldl]
          rfl
        rw [e1]
        refine ⟨?_, .str (repS a k), H, I.tok _, ⟨s.toks, rfl⟩, q⟩
        show (List.replicate k.toNat a.cps.toList).flatten.toArray.size ≤ sizeLine
        rw [List.size_toArray, PyProof.Rows.lm_len_rep_flat, Nat.mul_comm]
        exact hz
def rMulM (K : PySem.W.Frag) : R2 := fun x y H Q => (rI CMul fun i j => .int (i * j)) x y H Q ∨ (rI CMulW fun i j => .int (i * j)) x y H Q ∨ rRep x y H Q ∨ rRepS x y H Q ∨ rRepTS K x y H Q ∨ rRepT K x y H Q
theorem op_mulM {X : Cx} : OpR X (binaryOp .Mult) (rMulM X.K) := OpR.or op_mul (OpR.or op_mulW (OpR.or op_rep (OpR.or op_repS (OpR.or op_repTS op_repT))))
theorem RVs.rep {H : Hp} {xs : List MV} {vs : List V} (h : RVs K H xs vs) : ∀ n : Nat, RVs K H (List.replicate n xs).flatten (List.replicate n vs).flatten
  | 0 => by simp [RVs]
  | n + 1 => by
    rw [List.replicate_succ, List.replicate_succ, List.flatten_cons, List.flatten_cons]
    exact h.append (RVs.rep h n)
theorem os_mul : OpS K fMul (rMulM K) := by
  intro x y z v w Hk H Q e ex r1 r2 q qn
  unfold fMul at e
  split at e
  · rename_i i j
    split at e
    · rename_i h
      cases e
      unfold mulOk at h
      rw [Bool.or_eq_true] at h
      rcases h with h | h
      · refine .inl ⟨i, j, RV.int.mp r1, RV.int.mp r2, ?_, q _ (RV.int.mpr rfl)⟩
        simp only [Bool.or_eq_true, Bool.and_eq_true, decide_eq_true_eq] at h
        exact h
      · exact .inr (.inl ⟨i, j, RV.int.mp r1, RV.int.mp r2, of_decide_eq_true h, q _ (RV.int.mpr rfl)⟩)
    · cases e
  · rename_i a k
    split at e
    · rename_i h
      cases e
      simp only [Bool.and_eq_true, Bool.or_eq_true, decide_eq_true_eq] at h
      obtain ⟨p1, vs, rfl, h1, s1⟩ := RV.tup.mp r1
      have hvl := s1.length
      by_cases hk : k = 1 ∨ vs = []
      · refine .inr (.inr (.inr (.inr (.inl ⟨p1, k, vs, rfl, RV.int.mp r2, ex_t ex h1, hk, h.1.1, h.1.2, q _ ?_⟩))))
        have er : (List.replicate k.toNat a).flatten = a := by
          rcases hk with rfl | rfl
          · simp
          · have : a = [] := List.length_eq_zero_iff.mp (by simpa using hvl.symm)
            subst this; simp
        rw [er]
        exact RV.tup.mpr ⟨p1, vs, rfl, h1, s1⟩
      · have hk2 : 2 ≤ k ∧ k ≤ 1000 ∧ a.length ≤ 1000 := by
          rcases h.2 with (h2 | h2) | h2
          · exact absurd (.inl h2) hk
          · exact absurd (.inr (List.length_eq_zero_iff.mp (by rw [hvl]; simpa using h2))) hk
          · exact ⟨h2.1.1, h2.1.2, h2.2⟩
        refine .inr (.inr (.inr (.inr (.inr ⟨p1, k, vs, rfl, RV.int.mp r2, ex_t ex h1, fun e0 => hk (.inr e0), hk2.1, hk2.2.1, by rw [hvl]; exact hk2.2.2, fun p hp => qn p _ hp ?_⟩))))
        have z := Ex.new (o := .tup (List.replicate k.toNat vs).flatten) (ex.back hp)
        exact RV.tup.mpr ⟨p, _, rfl, SqT.of upd_same, (RVs.rep s1 _).mono z⟩
    · cases e
  · rename_i a k
    split at e
    · rename_i h
      cases e
      simp only [Bool.and_eq_true, decide_eq_true_eq] at h
      exact .inr (.inr (.inr (.inl ⟨a, k, RV.str.mp r1, RV.int.mp r2, h.1.1, h.1.2, szOk_iff.mp h.2, q _ (RV.str.mpr rfl)⟩)))
    · cases e
  · rename_i a k
    split at e
    · rename_i h
      cases e
      simp only [Bool.and_eq_true, decide_eq_true_eq] at h
      obtain ⟨p1, vs, rfl, h1, s1⟩ := RV.lst.mp r1
      refine .inr (.inr (.inl ⟨p1, k, vs, rfl, RV.int.mp r2, ex _ _ h1, h.1.1, h.1.2, ?_, fun p hp => qn p _ hp ?_⟩))
      · rw [s1.length]; exact szOk_iff.mp h.2
      · have z := Ex.new (o := .lst (List.replicate k.toNat vs).flatten) (ex.back hp)
        exact RV.lst.mpr ⟨p, _, rfl, upd_same, (RVs.rep s1 _).mono z⟩
    · cases e
  · cases e
def rDivM : R2 := fun x y H Q => (rI CDivN fun i j => .int (i.fdiv j)) x y H Q ∨ (rI CDivW fun i j => .int (i / j)) x y H Q
theorem op_divM {X : Cx} : OpR X (binaryOp .FloorDiv) rDivM := OpR.or op_fdivN op_fdivW
theorem os_div : OpS K fDiv rDivM := by
  intro x y z v w Hk H Q e ex r1 r2 q qn
  unfold fDiv at e
  split at e
  · rename_i i j
    split at e
    · rename_i h
      cases e
      unfold divOk at h
      rw [Bool.or_eq_true] at h
      rcases h with h | h
      · simp only [Bool.and_eq_true, decide_eq_true_eq] at h
        exact .inl ⟨i, j, RV.int.mp r1, RV.int.mp r2, h, q _ (RV.int.mpr rfl)⟩
      · simp only [Bool.and_eq_true, decide_eq_true_eq] at h
        refine .inr ⟨i, j, RV.int.mp r1, RV.int.mp r2, h, ?_⟩
        have := q _ (RV.int.mpr rfl)
        rw [Int.fdiv_eq_ediv_of_nonneg i (by omega)] at this
        exact this
    · cases e
  · cases e
theorem os_mod : OpS K fMod (rI (fun _ j => j ≠ 0) fun i j => .int (i.fmod j)) := by
  intro x y z v w Hk H Q e ex r1 r2 q qn
  unfold fMod at e
  split at e
  · split at e
    · rename_i h
      cases e
      exact ⟨_, _, RV.int.mp r1, RV.int.mp r2, of_decide_eq_true h, q _ (RV.int.mpr rfl)⟩
    · cases e
  · cases e
theorem os_pow : OpS K fPow (rI CPow fun i j => .int (i ^ j.toNat)) := by
  intro x y z v w Hk H Q e ex r1 r2 q qn
  unfold fPow at e
  split at e
  · split at e
    · rename_i h
      cases e
      simp only [Bool.and_eq_true, decide_eq_true_eq] at h
      exact ⟨_, _, RV.int.mp r1, RV.int.mp r2, ⟨h.1.1, h.1.2, h.2⟩, q _ (RV.int.mpr rfl)⟩
    · cases e
  · cases e
theorem os_and : OpS K fAnd (rI0 fun i j => .int (Builtin.bitAnd i j)) := by
  intro x y z v w Hk H Q e ex r1 r2 q qn
  unfold fAnd at e
  split at e
  · cases e; exact ⟨_, _, RV.int.mp r1, RV.int.mp r2, q _ (RV.int.mpr rfl)⟩
  · cases e
theorem os_or : OpS K fOr (rI0 fun i j => .int (Builtin.bitOr i j)) := by
  intro x y z v w Hk H Q e ex r1 r2 q qn
  unfold fOr at e
  split at e
  · cases e; exact ⟨_, _, RV.int.mp r1, RV.int.mp r2, q _ (RV.int.mpr rfl)⟩
  · cases e
theorem os_lt : OpS K fLt (rI0 fun i j => .bl (decide (i < j))) := by
  intro x y z v w Hk H Q e ex r1 r2 q qn
  unfold fLt at e
  split at e
  · cases e; exact ⟨_, _, RV.int.mp r1, RV.int.mp r2, q _ (RV.bl.mpr rfl)⟩
  · cases e
theorem os_le : OpS K fLe (rI0 fun i j => .bl (decide (i ≤ j))) := by
  intro x y z v w Hk H Q e ex r1 r2 q qn
  unfold fLe at e
  split at e
  · cases e; exact ⟨_, _, RV.int.mp r1, RV.int.mp r2, q _ (RV.bl.mpr rfl)⟩
  · cases e
theorem os_gt : OpS K fGt (rI0 fun i j => .bl (decide (j < i))) := by
  intro x y z v w Hk H Q e ex r1 r2 q qn
  unfold fGt at e
  split at e
  · cases e; exact ⟨_, _, RV.int.mp r1, RV.int.mp r2, q _ (RV.bl.mpr rfl)⟩
  · cases e
theorem os_ge : OpS K fGe (rI0 fun i j => .bl (decide (j ≤ i))) := by
  intro x y z v w Hk H Q e ex r1 r2 q qn
  unfold fGe at e
  split at e
  · cases e; exact ⟨_, _, RV.int.mp r1, RV.int.mp r2, q _ (RV.bl.mpr rfl)⟩
  · cases e
theorem RV.isnon {H : Hp} {x : MV} {v : V} (h : RV K H x v) : decide (v = .non) = x.isN := by
  cases x with
  | raw w => rw [RV.raw.mp h]; rfl
  | own _ => unfold RV at h; exact h.elim
  | obj _ _ => unfold RV at h; exact h.elim
  | non => rw [RV.non.mp h]; rfl
  | int i => rw [RV.int.mp h]; rfl
  | bl i => rw [RV.bl.mp h]; rfl
  | str i => rw [RV.str.mp h]; rfl
  | tup xs => obtain ⟨a, vs, e, _⟩ := RV.tup.mp h; rw [e]; rfl
  | lst xs => obtain ⟨a, vs, e, _⟩ := RV.lst.mp h; rw [e]; rfl
  | scr xs => obtain ⟨a, e, _⟩ := RV.scr.mp h; rw [e]; rfl
  | fnc x => obtain ⟨a, e, _⟩ := RV.fnc.mp h; rw [e]; rfl
  | dct ks xs => obtain ⟨a, vs, e, _⟩ := RV.dct.mp h; rw [e]; rfl
  | dow _ _ => unfold RV at h; exact h.elim
  | dot _ _ => unfold RV at h; exact h.elim
theorem os_isN : OpS K fIsN (fun x y H Q => y = .non ∧ Q (.bl (decide (x = .non))) H) := by
  intro x y z v w Hk H Q e ex r1 r2 q qn
  unfold fIsN at e
  split at e
  · cases e; refine ⟨RV.non.mp r2, ?_⟩
    rw [r1.isnon]; exact q _ (RV.bl.mpr rfl)
  · cases e
theorem scal_of {H : Hp} {x y : MV} {v w : V} (h : scalM x y = true) (r1 : RV K H x v) (r2 : RV K H y w) : scal v w = true ∧ decide (v = w) = sameM x y := by
  unfold scalM at h
  split at h <;> first | (cases h; done) | skip
  all_goals
    first
      | (rw [RV.non.mp r1] ) | (rw [RV.int.mp r1]) | (rw [RV.bl.mp r1]) | (rw [RV.str.mp r1])
    first
      | (rw [RV.non.mp r2] ) | (rw [RV.int.mp r2]) | (rw [RV.bl.mp r2]) | (rw [RV.str.mp r2])
    refine ⟨rfl, ?_⟩
    simp [sameM]
mutual
theorem Dp.of {Hk H : Hp} (ex : Ex Hk H) : ∀ (x : MV) (v : V) (d : PyData), RV K Hk x v → toD x = some d → Dp K H v d
  | .non, v, d, r, e => by rw [RV.non.mp r]; unfold toD at e; cases e; exact .non
  | .bl b, v, d, r, e => by rw [RV.bl.mp r]; unfold toD at e; cases e; exact .bl b
  | .int b, v, d, r, e => by rw [RV.int.mp r]; unfold toD at e; cases e; exact .int b
  | .str b, v, d, r, e => by rw [RV.str.mp r]; unfold toD at e; cases e; exact .str b
  | .tup xs, v, d, r, e => by
    obtain ⟨a, vs, rfl, h, s⟩ := RV.tup.mp r
    unfold toD at e
    cases e2 : toDs xs with
    | none => rw [e2] at e; cases e
    | some ds =>
      rw [e2] at e; cases e
      exact .tup (ex_t ex h) (DpAll.of ex xs vs ds s e2)
  | .lst xs, v, d, r, e => by
    obtain ⟨a, vs, rfl, h, s⟩ := RV.lst.mp r
    unfold toD at e
    cases e2 : toDs xs with
    | none => rw [e2] at e; cases e
    | some ds =>
      rw [e2] at e; cases e
      exact .lst (SqL.of (ex _ _ h)) (DpAll.of ex xs vs ds s e2)
  | .own _, v, d, r, e => by unfold toD at e; cases e
  | .raw _, v, d, r, e => by unfold toD at e; cases e
  | .scr _, v, d, r, e => by unfold toD at e; cases e
  | .fnc _, v, d, r, e => by unfold toD at e; cases e
  | .obj _ _, v, d, r, e => by unfold toD at e; cases e
  | .dct _ _, v, d, r, e => by unfold toD at e; cases e
  | .dow _ _, v, d, r, e => by unfold toD at e; cases e
  | .dot _ _, v, d, r, e => by unfold toD at e; cases e
theorem DpAll.of {Hk H : Hp} (ex : Ex Hk H) : ∀ (xs : List MV) (vs : List V) (ds : List PyData), RVs K Hk xs vs → toDs xs = some ds → DpAll K H vs ds
  | [], vs, ds, r, e => by rw [RVs.nil.mp r]; unfold toDs at e; cases e; exact .nil
  | x :: xs, vs, ds, r, e => by
    obtain ⟨v, us, rfl, r1, r2⟩ := RVs.cons.mp r
    unfold toDs at e
    split at e
    · rename_i d ds' e1 e2
      cases e
      exact .cons (Dp.of ex x v d r1 e1) (DpAll.of ex xs us ds' r2 e2)
    · cases e
end
def rEqM (K : PySem.W.Frag) : R2 := fun x y H Q => rEq x y H Q ∨ rEqD K x y H Q
def rNeM (K : PySem.W.Frag) : R2 := fun x y H Q => rNe x y H Q ∨ rNeD K x y H Q
theorem op_eqM {X : Cx} (hu : X.A.units + 64 < cLine) : OpR X (compareOp .Eq) (rEqM X.K) := OpR.or op_eq (op_eqD hu)
theorem op_neM {X : Cx} (hu : X.A.units + 64 < cLine) : OpR X (compareOp .NotEq) (rNeM X.K) := OpR.or op_ne (op_neD hu)
theorem os_eq : OpS K fEq (rEqM K) := by
  intro x y z v w Hk H Q e ex r1 r2 q qn
  unfold fEq eqM at e
  split at e
  · rename_i h
    obtain ⟨s1, s2⟩ := scal_of h r1 r2
    cases e
    refine .inl ⟨s1, ?_⟩
    rw [s2]; exact q _ (RV.bl.mpr rfl)
  · split at e
    · rename_i d e' e1 e2
      split at e
      · rename_i h
        rw [Bool.and_eq_true] at h
        cases e
        exact .inr ⟨d, e', Dp.of ex _ _ _ r1 e1, Dp.of ex _ _ _ r2 e2, h.1, h.2, q _ (RV.bl.mpr rfl)⟩
      · cases e
    · cases e
theorem os_ne : OpS K fNe (rNeM K) := by
  intro x y z v w Hk H Q e ex r1 r2 q qn
  unfold fNe eqM at e
  split at e
  · rename_i h
    obtain ⟨s1, s2⟩ := scal_of h r1 r2
    cases e
    refine .inl ⟨s1, ?_⟩
    rw [s2]; exact q _ (RV.bl.mpr rfl)
  · split at e
    · rename_i d e' e1 e2
      split at e
      · rename_i h
        rw [Bool.and_eq_true] at h
        cases e
        exact .inr ⟨d, e', Dp.of ex _ _ _ r1 e1, Dp.of ex _ _ _ r2 e2, h.1, h.2, q _ (RV.bl.mpr rfl)⟩
      · cases e
    · cases e
def fIx : MV → MV → Option MV
  | .lst xs, .int i => atI xs i
  | .tup xs, .int i => atI xs i
  | .scr ns, .int i => (atI ns i).map .int
  | .str z, .int i => if szOk z.length then (atI z.cps.toList i).map fun c => .str ⟨#[c]⟩ else none
  | _, _ => none
theorem atI_rv {H : Hp} {xs : List MV} {vs : List V} (r : RVs K H xs vs) {i : Int} {x : MV} (e : atI xs i = some x) : ∃ v, atI vs i = some v ∧ RV K H x v := by
  unfold atI at e ⊢
  rw [r.length]
  cases h : ixN xs.length i with
  | none => rw [h] at e; cases e
  | some j =>
    rw [h] at e
    exact r.get e
theorem atI_map {α β : Type} {f : α → β} {xs : List α} {i : Int} {x : α} (e : atI xs i = some x) : atI (xs.map f) i = some (f x) := by
  unfold atI at e ⊢
  rw [List.length_map]
  cases h : ixN xs.length i with
  | none => rw [h] at e; cases e
  | some j =>
    rw [h] at e
    show (xs.map f)[j]? = _
    rw [List.getElem?_map, show xs[j]? = some x from e]; rfl
theorem os_ix : OpS K fIx (rIx K) := by
  intro x y z v w Hk H Q e ex r1 r2 q qn
  unfold fIx at e
  split at e
  · obtain ⟨p1, vs, rfl, h1, s1⟩ := RV.lst.mp r1
    obtain ⟨u, eu, ru⟩ := atI_rv s1 e
    exact .inl ⟨p1, vs, _, u, rfl, RV.int.mp r2, SqL.of (ex _ _ h1), eu, q _ ru⟩
  · obtain ⟨p1, vs, rfl, h1, s1⟩ := RV.tup.mp r1
    obtain ⟨u, eu, ru⟩ := atI_rv s1 e
    exact .inr (.inl ⟨p1, vs, _, u, rfl, RV.int.mp r2, ex_t ex h1, eu, q _ ru⟩)
  · rename_i ns i
    obtain ⟨p1, rfl, h1⟩ := RV.scr.mp r1
    cases h : atI ns i with
    | none => rw [h] at e; cases e
    | some n =>
      rw [h] at e; cases e
      exact .inl ⟨p1, _, _, _, rfl, RV.int.mp r2, ex_l ex h1, atI_map h, q _ (RV.int.mpr rfl)⟩
  · rename_i s i
    split at e
    · rename_i hz
      cases h : atI s.cps.toList i with
      | none => rw [h] at e; cases e
      | some n =>
        rw [h] at e; cases e
        exact .inr (.inr ⟨s, i, n, RV.str.mp r1, RV.int.mp r2, szOk_iff.mp hz, h, q _ (RV.str.mpr rfl)⟩)
    · cases e
  · cases e
def flatM : MV → Bool
  | .non | .bl _ | .int _ | .str _ => true
  | _ => false
def eqFlat : MV → MV → Bool
  | .non, .non => true
  | .bl a, .bl b => a == b
  | .bl a, .int b => (if a then 1 else 0) == b
  | .int a, .bl b => a == (if b then 1 else 0)
  | .int a, .int b => a == b
  | .str a, .str b => a == b
  | _, _ => false
theorem flat_v {H : Hp} {x : MV} {v : V} (h : flatM x = true) (r : RV K H x v) : flatV v = true := by
  unfold flatM at h
  split at h <;> first | (cases h; done) | skip
  · rw [RV.non.mp r]; rfl
  · rw [RV.bl.mp r]; rfl
  · rw [RV.int.mp r]; rfl
  · rw [RV.str.mp r]; rfl
theorem flat_eq {H : Hp} {x y : MV} {v w : V} (h : flatM x = true) (h2 : flatM y = true) (r : RV K H x v) (r2 : RV K H y w) : eqV v w = eqFlat x y := by
  unfold flatM at h h2
  split at h <;> first | (cases h; done) | skip
  all_goals (split at h2 <;> first | (cases h2; done) | skip)
  all_goals
    first
      | (rw [RV.non.mp r] ) | (rw [RV.int.mp r]) | (rw [RV.bl.mp r]) | (rw [RV.str.mp r])
    first
      | (rw [RV.non.mp r2] ) | (rw [RV.int.mp r2]) | (rw [RV.bl.mp r2]) | (rw [RV.str.mp r2])
    rfl
theorem flats_v {H : Hp} : ∀ {xs : List MV} {vs : List V}, xs.all flatM = true → RVs K H xs vs → vs.all flatV = true
  | [], vs, _, r => by rw [RVs.nil.mp r]; rfl
  | x :: xs, vs, h, r => by
    obtain ⟨v, us, rfl, r1, r2⟩ := RVs.cons.mp r
    rw [List.all_cons, Bool.and_eq_true] at h
    rw [List.all_cons, flat_v h.1 r1, flats_v h.2 r2]; rfl
theorem inV_eq {H : Hp} {y : MV} {w : V} (hy : flatM y = true) (ry : RV K H y w) : ∀ {xs : List MV} {vs : List V}, xs.all flatM = true → RVs K H xs vs → inV w vs = xs.any fun x => eqFlat x y
  | [], vs, _, r => by rw [RVs.nil.mp r]; rfl
  | x :: xs, vs, h, r => by
    obtain ⟨v, us, rfl, r1, r2⟩ := RVs.cons.mp r
    rw [List.all_cons, Bool.and_eq_true] at h
    have ih := inV_eq hy ry h.2 r2
    unfold inV at ih ⊢
    rw [List.any_cons, List.any_cons, ih, flat_eq h.1 hy r1 ry]
def inM (y : MV) (xs : List MV) : Option Bool := if flatM y && xs.all flatM then some (xs.any fun x => eqFlat x y) else none
def inA : MV → MV → Option Bool
  | y, .lst xs => inM y xs
  | y, .tup xs => inM y xs
  | .str i, .str j => some (!(Builtin.Str.occurrences j i 0 j.length 1).isEmpty)
  | _, _ => none
def fIn (x y : MV) : Option MV := (inA x y).map .bl
def rInM (K : PySem.W.Frag) : R2 := fun x y H Q => rIn K false x y H Q ∨ (∃ i j, x = .str i ∧ y = .str j ∧ Q (.bl (!(Builtin.Str.occurrences j i 0 j.length 1).isEmpty)) H)
theorem op_inM {X : Cx} : OpR X (compareOp .In) (rInM X.K) := OpR.or op_in_seq op_in_str
theorem in_sq {Hk H : Hp} {x y : MV} {v w : V} {b : Bool} (ex : Ex Hk H) (r1 : RV K Hk x v) (r2 : RV K Hk y w) (e : inA x y = some b) :
    (∃ p xs, w = .ref p ∧ (SqL K H p xs ∨ SqT K H p xs) ∧ flatV v = true ∧ xs.all flatV = true ∧ inV v xs = b) ∨ (∃ i j, v = .str i ∧ w = .str j ∧ (!(Builtin.Str.occurrences j i 0 j.length 1).isEmpty) = b) := by
  unfold inA at e
  split at e
  · unfold inM at e
    split at e
    · rename_i h
      cases e
      rw [Bool.and_eq_true] at h
      obtain ⟨p1, vs, rfl, h1, s1⟩ := RV.lst.mp r2
      exact .inl ⟨p1, vs, rfl, .inl (SqL.of (ex _ _ h1)), flat_v h.1 r1, flats_v h.2 s1, inV_eq h.1 r1 h.2 s1⟩
    · cases e
  · unfold inM at e
    split at e
    · rename_i h
      cases e
      rw [Bool.and_eq_true] at h
      obtain ⟨p1, vs, rfl, h1, s1⟩ := RV.tup.mp r2
      exact .inl ⟨p1, vs, rfl, .inr (ex_t ex h1), flat_v h.1 r1, flats_v h.2 s1, inV_eq h.1 r1 h.2 s1⟩
    · cases e
  · cases e
    exact .inr ⟨_, _, RV.str.mp r1, RV.str.mp r2, rfl⟩
  · cases e
theorem os_in : OpS K fIn (rInM K) := by
  intro x y z v w Hk H Q e ex r1 r2 q qn
  unfold fIn at e
  cases eb : inA x y with
  | none => rw [eb] at e; cases e
  | some b =>
    rw [eb] at e; cases e
    rcases in_sq ex r1 r2 eb with ⟨p, xs, e1, e2, e3, e4, e5⟩ | ⟨i, j, e1, e2, e3⟩
    · exact .inl ⟨p, xs, e1, e2, e3, e4, by rw [if_neg (by decide), e5]; exact q _ (RV.bl.mpr rfl)⟩
    · exact .inr ⟨i, j, e1, e2, by rw [e3]; exact q _ (RV.bl.mpr rfl)⟩
end
end Tm
set_option Elab.async false
set_option linter.all false
set_option maxRecDepth 100000
set_option maxHeartbeats 2000000
namespace Tm
open PySem L2
open Evl (Ex ex_rd ex_l ex_t)
structure Post (c : Ct) (F : Hp) (bp : List (Nat × Addr)) (σ : St) {β : Type} (P : Hp → Res (β × Env) → Prop) : Prop where
  ex : ∀ Hk e ρ, P Hk (.exc e ρ) → Wish c F Hk bp σ e ρ
  st : ∀ Hk, ¬ P Hk .stuck
  mono : ∀ Hk Hk' r, Ex Hk Hk' → P Hk r → P Hk' r
section
variable {c : Ct} {F Hk H : Hp} {bp : List (Nat × Addr)} {σ : St} {ρ : Env} {β : Type}
theorem postE {Q : VK} : Post c F bp σ fun Hk r => okE c F Hk bp σ Q r := ⟨fun _ _ _ h => h, fun _ h => h, fun _ _ _ x h => okE.mono x h⟩
theorem postO {Q : VK} : Post c F bp σ fun Hk r => okO c F Hk bp σ Q r := ⟨fun _ _ _ h => h, fun _ h => h, fun _ _ _ x h => okO.mono x h⟩
theorem postT {Q : Bool → Hp → Prop} : Post c F bp σ fun Hk r => okT c F Hk bp σ Q r := ⟨fun _ _ _ h => h, fun _ h => h, fun _ _ _ x h => okT.mono x h⟩
theorem postA {Q : List V → Hp → Prop} : Post c F bp σ fun Hk r => okA c F Hk bp σ Q r := ⟨fun _ _ _ h => h, fun _ h => h, fun _ _ _ x h => okA.mono x h⟩
theorem postS {D : Ends} : Post c F bp σ fun Hk r => okS c F Hk bp D r := ⟨fun _ _ _ h Hk' H' cls d => h Hk' H' σ cls d, fun _ h => h, fun _ _ _ x h => okS.mono x h⟩
variable {P : Hp → Res (β × Env) → Prop}
theorem bE (p : Post c F bp σ P) {a : ME} {k : MV → Env → Res (β × Env)} (S : At c F Hk H bp σ ρ) (h : P Hk ((a ρ).bind k)) :
    rdE c a σ H fun v H1 => ∃ Hk1 x ρ1, Ex Hk Hk1 ∧ At c F Hk1 H1 bp σ ρ1 ∧ RV c.K Hk1 x v ∧ P Hk1 (k x ρ1) := by
  refine ⟨F, Hk, bp, ρ, S, ?_⟩
  cases e : a ρ with
  | stuck => rw [e] at h; exact p.st _ h
  | exc x ρ' => rw [e] at h; exact p.ex _ _ _ h
  | ok q =>
    rw [e] at h
    exact fun Hk1 H1 v x1 S1 r1 => ⟨Hk1, q.1, q.2, x1, ⟨S1, S.2⟩, r1, p.mono _ _ _ x1 h⟩
theorem bO (p : Post c F bp σ P) {a : ME} {k : MV → Env → Res (β × Env)} (S : At c F Hk H bp σ ρ) (h : P Hk ((a ρ).bind k)) :
    rdO c a σ H fun v H1 => ∃ Hk1 x ρ1, Ex Hk Hk1 ∧ RS c.K F Hk1 H1 bp (σ ++ [some v]) (ρ1 ++ [some x]) ∧ P Hk1 (k x ρ1) := by
  refine ⟨F, Hk, bp, ρ, S, ?_⟩
  cases e : a ρ with
  | stuck => rw [e] at h; exact p.st _ h
  | exc x ρ' => rw [e] at h; exact p.ex _ _ _ h
  | ok q =>
    rw [e] at h
    exact fun Hk1 H1 v x1 S1 => ⟨Hk1, q.1, q.2, x1, S1, p.mono _ _ _ x1 h⟩
theorem bT (p : Post c F bp σ P) {a : MT} {k : Bool → Env → Res (β × Env)} (S : At c F Hk H bp σ ρ) (h : P Hk ((a ρ).bind k)) :
    rdT c a σ H fun b H1 => ∃ Hk1 ρ1, Ex Hk Hk1 ∧ At c F Hk1 H1 bp σ ρ1 ∧ P Hk1 (k b ρ1) := by
  refine ⟨F, Hk, bp, ρ, S, ?_⟩
  cases e : a ρ with
  | stuck => rw [e] at h; exact p.st _ h
  | exc x ρ' => rw [e] at h; exact p.ex _ _ _ h
  | ok q =>
    rw [e] at h
    exact fun Hk1 H1 x1 S1 => ⟨Hk1, q.2, x1, ⟨S1, S.2⟩, p.mono _ _ _ x1 h⟩
theorem bA (p : Post c F bp σ P) {a : MA} {k : List MV → Env → Res (β × Env)} (S : At c F Hk H bp σ ρ) (h : P Hk ((a ρ).bind k)) :
    rdA c a σ H fun vs H1 => ∃ Hk1 xs ρ1, Ex Hk Hk1 ∧ At c F Hk1 H1 bp σ ρ1 ∧ RVs c.K Hk1 xs vs ∧ P Hk1 (k xs ρ1) := by
  refine ⟨F, Hk, bp, ρ, S, ?_⟩
  cases e : a ρ with
  | stuck => rw [e] at h; exact p.st _ h
  | exc x ρ' => rw [e] at h; exact p.ex _ _ _ h
  | ok q =>
    rw [e] at h
    exact fun Hk1 H1 vs x1 S1 r1 => ⟨Hk1, q.1, q.2, x1, ⟨S1, S.2⟩, r1, p.mono _ _ _ x1 h⟩
end
section
variable {c : Ct}
theorem okE.imp {F Hk : Hp} {bp : List (Nat × Addr)} {σ : St} {Q Q' : VK} {r : Res (MV × Env)} (h : okE c F Hk bp σ Q r) (w : ∀ v H, Q v H → Q' v H) : okE c F Hk bp σ Q' r := by
  cases r with
  | ok a => exact fun Hk2 H2 v x S r => w _ _ (h Hk2 H2 v x S r)
  | exc e ρ => exact h
  | stuck => exact h
theorem okT.imp {F Hk : Hp} {bp : List (Nat × Addr)} {σ : St} {Q Q' : Bool → Hp → Prop} {r : Res (Bool × Env)} (h : okT c F Hk bp σ Q r) (w : ∀ v H, Q v H → Q' v H) : okT c F Hk bp σ Q' r := by
  cases r with
  | ok a => exact fun Hk2 H2 x S => w _ _ (h Hk2 H2 x S)
  | exc e ρ => exact h
  | stuck => exact h
theorem okA.imp {F Hk : Hp} {bp : List (Nat × Addr)} {σ : St} {Q Q' : List V → Hp → Prop} {r : Res (List MV × Env)} (h : okA c F Hk bp σ Q r) (w : ∀ v H, Q v H → Q' v H) : okA c F Hk bp σ Q' r := by
  cases r with
  | ok a => exact fun Hk2 H2 v x S r => w _ _ (h Hk2 H2 v x S r)
  | exc e ρ => exact h
  | stuck => exact h
theorem okO.imp {F Hk : Hp} {bp : List (Nat × Addr)} {σ : St} {Q Q' : VK} {r : Res (MV × Env)} (h : okO c F Hk bp σ Q r) (w : ∀ v H, Q v H → Q' v H) : okO c F Hk bp σ Q' r := by
  cases r with
  | ok a => exact fun Hk2 H2 v x S => w _ _ (h Hk2 H2 v x S)
  | exc e ρ => exact h
  | stuck => exact h
theorem rdw {m : ME} {σ : St} {H : Hp} {Q Q' : VK} (h : rdE c m σ H Q) (w : ∀ v H, Q v H → Q' v H) : rdE c m σ H Q' := let ⟨F, Hk, bp, ρ, S, q⟩ := h; ⟨F, Hk, bp, ρ, S, q.imp w⟩
theorem rdOw {m : ME} {σ : St} {H : Hp} {Q Q' : VK} (h : rdO c m σ H Q) (w : ∀ v H, Q v H → Q' v H) : rdO c m σ H Q' := let ⟨F, Hk, bp, ρ, S, q⟩ := h; ⟨F, Hk, bp, ρ, S, q.imp w⟩
theorem rdTw {m : MT} {σ : St} {H : Hp} {Q Q' : Bool → Hp → Prop} (h : rdT c m σ H Q) (w : ∀ v H, Q v H → Q' v H) : rdT c m σ H Q' := let ⟨F, Hk, bp, ρ, S, q⟩ := h; ⟨F, Hk, bp, ρ, S, q.imp w⟩
theorem rdAw {m : MA} {σ : St} {H : Hp} {Q Q' : List V → Hp → Prop} (h : rdA c m σ H Q) (w : ∀ v H, Q v H → Q' v H) : rdA c m σ H Q' := let ⟨F, Hk, bp, ρ, S, q⟩ := h; ⟨F, Hk, bp, ρ, S, q.imp w⟩
end
section
variable {X : Cx} {c : Ct}
def mTest (a : ME) : MT := fun ρ => (a ρ).bind fun x ρ1 => match x with | .bl b => .ok (b, ρ1) | _ => .stuck
theorem rd_test {a : ME} {σ : St} {H : Hp} {Q : Bool → Hp → Prop} (h : rdT c (mTest a) σ H Q) : (rdE c a) σ H fun x H' => ∃ k, x = .bl k ∧ Q k H' := by
  obtain ⟨F, Hk, bp, ρ, S, h⟩ := h
  obtain ⟨F', Hk', bp', ρ', S', h'⟩ := bE postT S h
  refine ⟨F', Hk', bp', ρ', S', ?_⟩
  cases e : a ρ' with
  | stuck => rw [e] at h'; exact h'
  | exc x r => rw [e] at h'; exact h'
  | ok q =>
    rw [e] at h'
    intro Hk1 H1 v x1 S1 r1
    obtain ⟨Hk2, x, ρ2, x2, S2, r2, h2⟩ := h' Hk1 H1 v x1 S1 r1
    cases x with
    | bl b => exact ⟨b, RV.bl.mp r2, h2 _ _ (Ex.refl _) S2.1⟩
    | _ => exact h2.elim
theorem mt_cmp {op : CmpOp} {f : MV → MV → Option MV} {r : R2} {a b : Expr} {ma mb : ME} {pos : Pos} (ho : OpR X (compareOp op) r) (o : OpS c.K f r) (ha : PE X a (rdE c ma)) (hb : PE X b (rdE c mb)) (hm : behindInMarks op b = false) :
    PT X (.Compare a [op] [b] pos) (rdT c (mTest (mOp f ma mb))) := PTw (pt_cmpR ho ha hb hm) fun σ H Q h => rd_op (Q := fun x H' => ∃ k, x = .bl k ∧ Q k H') o (rd_test h)
theorem mt_val {e : Expr} {m : ME} (h : PE X e (rdE c m)) (he : ∀ whole, isTrue e X.env whole = (do let v ← whole; standAt e.pos; holding [v] (truthy v)) := by intro _; rfl) : PT X e (rdT c (mTest m)) :=
  PTw (pt_val h he) fun σ H Q h => rd_test h
def mChain (f g : MV → MV → Option MV) (a b d : ME) : ME := fun ρ => (a ρ).bind fun x ρ1 => (b ρ1).bind fun y ρ2 => match f x y with
  | some (.bl true) => (d ρ2).bind fun z ρ3 => match g y z with | some w => .ok (w, ρ3) | none => .stuck
  | some (.bl false) => .ok (.bl false, ρ2)
  | _ => .stuck
theorem opEnd {f : MV → MV → Option MV} {r : R2} (o : OpS c.K f r) {F Hk H : Hp} {bp : List (Nat × Addr)} {σ : St} {ρ : Env} {Q : VK} {x y : MV} {v w : V} (S : At c F Hk H bp σ ρ) (r1 : RV c.K Hk x v) (r2 : RV c.K Hk y w)
    (h : okE c F Hk bp σ Q (match f x y with | some z => .ok (z, ρ) | none => .stuck)) : r v w H Q := by
  cases e : f x y with
  | none => rw [e] at h; exact h.elim
  | some z =>
    rw [e] at h
    exact o x y z v w Hk H Q e S.1.ex r1 r2 (fun u ru => h _ _ u (Ex.refl _) S.1 ru) fun p ob hp ru => h _ _ _ (Ex.new (S.1.ex.back hp)) (S.1.new hp) ru
theorem rd_chain {f g : MV → MV → Option MV} {r r' : R2} (o : OpS c.K f r) (o' : OpS c.K g r') {a b d : ME} {σ : St} {H : Hp} {Q : VK} (h : rdE c (mChain f g a b d) σ H Q) : tChain r r' (rdE c a) (rdE c b) (rdE c d) σ H Q := by
  obtain ⟨F, Hk, bp, ρ, S, h⟩ := h
  refine rdw (bE postE S h) fun v H1 ⟨Hk1, x, ρ1, x1, S1, r1, h1⟩ => ?_
  refine rdw (bE postE S1 h1) fun w H2 ⟨Hk2, y, ρ2, x2, S2, r2, h2⟩ => ?_
  split at h2
  · rename_i e
    refine o x y _ v w Hk2 H2 _ e S2.1.ex (RV.mono x2 _ _ r1) r2 (fun u ru => ⟨true, RV.bl.mp ru, ?_⟩) fun p ob hp ru => nomatch (RV.bl.mp ru)
    rw [if_pos rfl]
    refine rdw (bE postE S2 h2) fun z H3 ⟨Hk3, zz, ρ3, x3, S3, r3, h3⟩ => ?_
    exact opEnd o' S3 (RV.mono x3 _ _ r2) r3 h3
  · rename_i e
    refine o x y _ v w Hk2 H2 _ e S2.1.ex (RV.mono x2 _ _ r1) r2 (fun u ru => ⟨false, RV.bl.mp ru, ?_⟩) fun p ob hp ru => nomatch (RV.bl.mp ru)
    rw [if_neg (by decide)]
    exact h2 _ _ _ (Ex.refl _) S2.1 (RV.bl.mpr rfl)
  · exact h2.elim
theorem me_chain {op op' : CmpOp} {f g : MV → MV → Option MV} {r r' : R2} {a b d : Expr} {ma mb md : ME} {pos : Pos} (ho : OpR X (compareOp op) r) (o : OpS c.K f r) (ho' : OpR X (compareOp op') r') (o' : OpS c.K g r')
    (ha : PE X a (rdE c ma)) (hb : PE X b (rdE c mb)) (hd : PE X d (rdE c md)) (hm : lastMarks [op, op'] [b, d] = false := by with_unfolding_all rfl) : PE X (.Compare a [op, op'] [b, d] pos) (rdE c (mChain f g ma mb md)) :=
  PEw (pe_chain ho ho' ha hb hd hm) fun _ _ _ h => rd_chain o o' h
theorem mt_chain {op op' : CmpOp} {f g : MV → MV → Option MV} {r r' : R2} {a b d : Expr} {ma mb md : ME} {pos : Pos} (ho : OpR X (compareOp op) r) (o : OpS c.K f r) (ho' : OpR X (compareOp op') r') (o' : OpS c.K g r')
    (ha : PE X a (rdE c ma)) (hb : PE X b (rdE c mb)) (hd : PE X d (rdE c md)) (hm : lastMarks [op, op'] [b, d] = false := by with_unfolding_all rfl) : PT X (.Compare a [op, op'] [b, d] pos) (rdT c (mTest (mChain f g ma mb md))) :=
  PTw (pt_chain ho ho' ha hb hd hm) fun σ H Q h => rd_chain (Q := fun x H' => ∃ k, x = .bl k ∧ Q k H') o o' (rd_test h)
def mAndT (a b : MT) : MT := fun ρ => (a ρ).bind fun x ρ1 => if x then b ρ1 else .ok (false, ρ1)
def mOrT (a b : MT) : MT := fun ρ => (a ρ).bind fun x ρ1 => if x then .ok (true, ρ1) else b ρ1
def mNotT (a : MT) : MT := fun ρ => (a ρ).bind fun x ρ1 => .ok (!x, ρ1)
def mBv (t : MT) : ME := fun ρ => (t ρ).bind fun x ρ1 => .ok (.bl x, ρ1)
theorem rd_andT {a b : MT} {σ : St} {H : Hp} {Q : Bool → Hp → Prop} (h : rdT c (mAndT a b) σ H Q) : tAnd (rdT c a) (rdT c b) σ H Q := by
  obtain ⟨F, Hk, bp, ρ, S, h⟩ := h
  refine rdTw (bT postT S h) fun k H1 ⟨Hk1, ρ1, x1, S1, h1⟩ => ?_
  cases k with
  | true => rw [if_pos rfl] at h1 ⊢; exact ⟨F, Hk1, bp, ρ1, S1, h1⟩
  | false => rw [if_neg (by decide)] at h1 ⊢; exact h1 _ _ (Ex.refl _) S1.1
theorem rd_orT {a b : MT} {σ : St} {H : Hp} {Q : Bool → Hp → Prop} (h : rdT c (mOrT a b) σ H Q) : tOr (rdT c a) (rdT c b) σ H Q := by
  obtain ⟨F, Hk, bp, ρ, S, h⟩ := h
  refine rdTw (bT postT S h) fun k H1 ⟨Hk1, ρ1, x1, S1, h1⟩ => ?_
  cases k with
  | true => rw [if_pos rfl] at h1 ⊢; exact h1 _ _ (Ex.refl _) S1.1
  | false => rw [if_neg (by decide)] at h1 ⊢; exact ⟨F, Hk1, bp, ρ1, S1, h1⟩
theorem rd_notT {a : MT} {σ : St} {H : Hp} {Q : Bool → Hp → Prop} (h : rdT c (mNotT a) σ H Q) : tNot (rdT c a) σ H Q := by
  obtain ⟨F, Hk, bp, ρ, S, h⟩ := h
  exact rdTw (bT postT S h) fun k H1 ⟨Hk1, ρ1, x1, S1, h1⟩ => h1 _ _ (Ex.refl _) S1.1
theorem mw_one_and {a : Expr} {m : MT} {pos : Pos} (h : PT X a (rdT c m)) : PW X (.BoolOp .And [a] pos) (rdT c m) := pw_and1 h
theorem mw_one_or {a : Expr} {m : MT} {pos : Pos} (h : PT X a (rdT c m)) : PW X (.BoolOp .Or [a] pos) (rdT c m) := pw_or1 h
theorem mw_and {a b : Expr} {r : List Expr} {m n : MT} {pos : Pos} (h : PT X a (rdT c m)) (g : PW X (.BoolOp .And (b :: r) pos) (rdT c n)) : PW X (.BoolOp .And (a :: b :: r) pos) (rdT c (mAndT m n)) := PWw (pw_and h g) fun _ _ _ q => rd_andT q
theorem mw_or {a b : Expr} {r : List Expr} {m n : MT} {pos : Pos} (h : PT X a (rdT c m)) (g : PW X (.BoolOp .Or (b :: r) pos) (rdT c n)) : PW X (.BoolOp .Or (a :: b :: r) pos) (rdT c (mOrT m n)) := PWw (pw_or h g) fun _ _ _ q => rd_orT q
theorem mt_not {a : Expr} {m : MT} {pos : Pos} (h : PT X a (rdT c m)) : PT X (.UnaryOp .Not a pos) (rdT c (mNotT m)) := PTw (pt_not h) fun _ _ _ q => rd_notT q
theorem okBv {F Hk : Hp} {bp : List (Nat × Addr)} {σ : St} {Q : VK} {r : Res (Bool × Env)} (h : okT c F Hk bp σ (fun k H => Q (.bl k) H) r) : okE c F Hk bp σ Q (r.bind fun x ρ1 => .ok (.bl x, ρ1)) := by
  cases r with
  | ok a =>
    intro Hk2 H2 v x S rv
    rw [RV.bl.mp rv]
    exact h Hk2 H2 x S
  | exc e ρ => exact h
  | stuck => exact h
theorem rdBv {t : MT} {σ : St} {H : Hp} {Q : VK} (h : rdT c t σ H fun k H1 => Q (.bl k) H1) : rdE c (mBv t) σ H Q := let ⟨F, Hk, bp, ρ, S, q⟩ := h; ⟨F, Hk, bp, ρ, S, okBv q⟩
theorem rdBv' {t : MT} {σ : St} {H : Hp} {Q : VK} (h : rdE c (mBv t) σ H Q) : rdT c t σ H fun k H1 => Q (.bl k) H1 := by
  obtain ⟨F, Hk, bp, ρ, S, h⟩ := h
  exact rdTw (bT postE S h) fun k H1 ⟨Hk1, ρ1, x1, S1, h1⟩ => h1 _ _ _ (Ex.refl _) S1.1 (RV.bl.mpr rfl)
end
end Tm
set_option Elab.async false
set_option linter.all false
set_option maxRecDepth 100000
set_option maxHeartbeats 2000000
namespace Tm
open PySem L2
open Evl (Ex ex_rd ex_l ex_t)
section
variable {X : Cx} {c : Ct}
theorem rd_oneV {a : ME} {σ : St} {H : Hp} {Q : VK} (h : rdE c (mBv (mTest a)) σ H Q) : rdE c a σ H Q := rdw (rd_test (rdBv' h)) fun v H1 ⟨k, e, q⟩ => by rw [e]; exact q
theorem me_one {op : BoolOp} {a : Expr} {m : ME} {pos : Pos} (h : PE X a (rdE c m)) : PE X (.BoolOp op [a] pos) (rdE c (mBv (mTest m))) := PEw (pe_one h) fun _ _ _ q => rd_oneV q
theorem me_and {a b : Expr} {r : List Expr} {m : ME} {t : MT} {pos : Pos} (h : PE X a (rdE c m)) (g : PE X (.BoolOp .And (b :: r) pos) (rdE c (mBv t))) : PE X (.BoolOp .And (a :: b :: r) pos) (rdE c (mBv (mAndT (mTest m) t))) :=
  PEw (pe_and h g) fun σ H Q q => rdw (rd_test (rd_andT (rdBv' q))) fun v H1 ⟨k, e, q⟩ => ⟨k, e, by
    cases k with
    | true => rw [if_pos rfl] at q ⊢; exact rdBv q
    | false => rw [if_neg (by decide)] at q ⊢; exact q⟩
def mUn (f : MV → Option MV) (a : ME) : ME := fun ρ => (a ρ).bind fun x ρ1 => match f x with | some z => .ok (z, ρ1) | none => .stuck
def fNeg : MV → Option MV
  | .int i => some (.int (-i))
  | _ => none
def UnS (K : PySem.W.Frag) (f : MV → Option MV) (r : V → Hp → VK → Prop) : Prop := ∀ (x z : MV) (v : V) (Hk H : Hp) (Q : VK), f x = some z → Ex Hk H → RV K Hk x v → (∀ u, RV K Hk z u → Q u H) →
  (∀ p o, H p = none → RV K (upd Hk p o) z (.ref p) → Q (.ref p) (upd H p o)) → r v H Q
theorem unEnd {f : MV → Option MV} {r : V → Hp → VK → Prop} (o : UnS c.K f r) {F Hk H : Hp} {bp : List (Nat × Addr)} {σ : St} {ρ : Env} {Q : VK} {x : MV} {v : V} (S : At c F Hk H bp σ ρ) (r1 : RV c.K Hk x v)
    (h : okE c F Hk bp σ Q (match f x with | some z => .ok (z, ρ) | none => .stuck)) : r v H Q := by
  cases e : f x with
  | none => rw [e] at h; exact h.elim
  | some z =>
    rw [e] at h
    exact o x z v Hk H Q e S.1.ex r1 (fun u ru => h _ _ u (Ex.refl _) S.1 ru) fun p ob hp ru => h _ _ _ (Ex.new (S.1.ex.back hp)) (S.1.new hp) ru
theorem rd_un {f : MV → Option MV} {r : V → Hp → VK → Prop} (o : UnS c.K f r) {a : ME} {σ : St} {H : Hp} {Q : VK} (h : rdE c (mUn f a) σ H Q) : tUn r (rdE c a) σ H Q := by
  obtain ⟨F, Hk, bp, ρ, S, h⟩ := h
  exact rdw (bE postE S h) fun v H1 ⟨Hk1, x, ρ1, x1, S1, r1, h1⟩ => unEnd o S1 r1 h1
theorem us_neg {K : PySem.W.Frag} : UnS K fNeg (rU fun i => .int (-i)) := by
  intro x z v Hk H Q e ex r1 q qn
  unfold fNeg at e
  split at e
  · cases e; exact ⟨_, RV.int.mp r1, q _ (RV.int.mpr rfl)⟩
  · cases e
theorem me_neg {a : Expr} {m : ME} {pos : Pos} (h : PE X a (rdE c m)) : PE X (.UnaryOp .USub a pos) (rdE c (mUn fNeg m)) := PEw (pe_un un_neg h) fun _ _ _ q => rd_un us_neg q
def mNil : MA := fun ρ => .ok ([], ρ)
def mCons (a : ME) (b : MA) : MA := fun ρ => (a ρ).bind fun x ρ1 => (b ρ1).bind fun xs ρ2 => .ok (x :: xs, ρ2)
theorem ma_nil : PA X [] (rdA c mNil) := PAw pa_nil fun σ H Q h => by
  obtain ⟨F, Hk, bp, ρ, S, h⟩ := h
  exact h _ _ _ (Ex.refl _) S.1 (RVs.nil.mpr rfl)
theorem ma_cons {e : Expr} {es : List Expr} {a : ME} {b : MA} (ha : PE X e (rdE c a)) (hb : PA X es (rdA c b)) (hs : starEach (e :: es) X.env = (false, eval e X.env) :: starEach es X.env := by rfl) : PA X (e :: es) (rdA c (mCons a b)) :=
  PAw (pa_cons ha hb hs) fun σ H Q h => by
    obtain ⟨F, Hk, bp, ρ, S, h⟩ := h
    refine rdw (bE postA S h) fun v H1 ⟨Hk1, x, ρ1, x1, S1, r1, h1⟩ => ?_
    refine rdAw (bA postA S1 h1) fun vs H2 ⟨Hk2, xs, ρ2, x2, S2, r2, h2⟩ => ?_
    exact h2 _ _ _ (Ex.refl _) S2.1 (RVs.cons.mpr ⟨v, vs, rfl, RV.mono x2 _ _ r1, r2⟩)
def mTup (a : MA) : ME := fun ρ => (a ρ).bind fun xs ρ1 => if szOk xs.length then .ok (.tup xs, ρ1) else .stuck
def mLst (a : MA) : ME := fun ρ => (a ρ).bind fun xs ρ1 => if szOk xs.length then .ok (.lst xs, ρ1) else .stuck
def mLstO (a : MA) : ME := fun ρ => (a ρ).bind fun xs ρ1 => if szOk xs.length then .ok (.own xs, ρ1) else .stuck
theorem me_tup {es : List Expr} {a : MA} {pos : Pos} {k : Nat} (h : PA X es (rdA c a)) : PE X (.Tuple es k pos) (rdE c (mTup a)) := PEw (pe_tup h) fun σ H Q h => by
  obtain ⟨F, Hk, bp, ρ, S, h⟩ := h
  refine rdAw (bA postE S h) fun vs H1 ⟨Hk1, xs, ρ1, x1, S1, r1, h1⟩ => ?_
  split at h1
  · rename_i hz
    refine ⟨by rw [r1.length]; exact szOk_iff.mp hz, fun p hp => h1 _ _ _ (Ex.new (S1.1.ex.back hp)) (S1.1.new hp) (RV.tup.mpr ⟨p, vs, rfl, SqT.of upd_same, r1.mono (Ex.new (S1.1.ex.back hp))⟩)⟩
  · exact h1.elim
theorem me_lst {es : List Expr} {a : MA} {pos : Pos} (h : PA X es (rdA c a)) : PE X (.List es pos) (rdE c (mLst a)) := PEw (pe_lst h) fun σ H Q h => by
  obtain ⟨F, Hk, bp, ρ, S, h⟩ := h
  refine rdAw (bA postE S h) fun vs H1 ⟨Hk1, xs, ρ1, x1, S1, r1, h1⟩ => ?_
  split at h1
  · rename_i hz
    refine ⟨by rw [r1.length]; exact szOk_iff.mp hz, fun p hp => h1 _ _ _ (Ex.new (S1.1.ex.back hp)) (S1.1.new hp) (RV.lst.mpr ⟨p, vs, rfl, upd_same, r1.mono (Ex.new (S1.1.ex.back hp))⟩)⟩
  · exact h1.elim
theorem mo_lst {es : List Expr} {a : MA} {pos : Pos} (h : PA X es (rdA c a)) : PE X (.List es pos) (rdO c (mLstO a)) := PEw (pe_lst h) fun σ H Q h => by
  obtain ⟨F, Hk, bp, ρ, S, h⟩ := h
  refine rdAw (bA postO S h) fun vs H1 ⟨Hk1, xs, ρ1, x1, S1, r1, h1⟩ => ?_
  split at h1
  · rename_i hz
    exact ⟨by rw [r1.length]; exact szOk_iff.mp hz, fun p hp => h1 _ _ _ (Ex.refl _) (S1.1.pushOwn hp r1)⟩
  · exact h1.elim
theorem me_ix {a b : Expr} {ma mb : ME} {pos : Pos} (ha : PE X a (rdE c ma)) (hb : PE X b (rdE c mb)) (hK : c.K = X.K := by rfl) (hs : PlainIx b := by exact fun _ _ => rfl) : PE X (.Subscript a b pos) (rdE c (mOp fIx ma mb)) :=
  PEw (pe_ix ix_seq ha hb hs) fun _ _ _ q => rd_op (by rw [hK]; exact os_ix) q
theorem flat_rv {K : PySem.W.Frag} {H H' : Hp} {z : MV} {u : V} (h : flatM z = true) (r : RV K H z u) : RV K H' z u := by
  unfold flatM at h
  split at h <;> first | (cases h; done) | skip
  · rw [RV.non] at r ⊢; exact r
  · rw [RV.bl] at r ⊢; exact r
  · rw [RV.int] at r ⊢; exact r
  · rw [RV.str] at r ⊢; exact r
def has (ρ : Env) (i : Nat) : Bool := match ρ[i]? with | some (some _) => true | _ => false
theorem has_rs {F Hk H : Hp} {bp : List (Nat × Addr)} {σ : St} {ρ : Env} {i : Nat} (S : At c F Hk H bp σ ρ) (e : has ρ i = true) : ∃ v, σ[i]? = some (some v) := by
  unfold has at e
  split at e
  · rename_i x h
    obtain ⟨ow, s⟩ := S.1.ow
    obtain ⟨v, ev, _⟩ := s.s i x h
    exact ⟨v, ev⟩
  · cases e
def ixL (xs : List MV) : MV → Option MV
  | .int k => atI xs k
  | _ => none
def ixV (ρ : Env) (i : Nat) (y : MV) : Option MV := match ρ[i]? with
  | some (some (.own xs)) => ixL xs y
  | some (some x) => if x.per then fIx x y else none
  | _ => none
def mIxV (i : Nat) (b : ME) : ME := fun ρ => if has ρ i then (b ρ).bind fun y ρ1 => match ixV ρ1 i y with | some z => .ok (z, ρ1) | none => .stuck else .stuck
theorem rd_ixV {i : Nat} {b : ME} {σ : St} {H : Hp} {Q : VK} (h : rdE c (mIxV i b) σ H Q) : tOp (rIx c.K) (tVar i) (rdE c b) σ H Q := by
  obtain ⟨F, Hk, bp, ρ, S, h⟩ := h
  unfold mIxV at h
  split at h
  · rename_i hh
    obtain ⟨v, ev⟩ := has_rs S hh
    refine ⟨v, ev, ?_⟩
    refine rdw (bE postE S h) fun w H1 ⟨Hk1, y, ρ1, x1, S1, r1, h1⟩ => ?_
    cases e : ixV ρ1 i y with
    | none => rw [e] at h1; exact h1.elim
    | some z =>
      rw [e] at h1
      unfold ixV at e
      split at e
      · rename_i xs hx
        obtain ⟨p, vs, e1, e2, e3, e4, e5⟩ := S1.1.getOwn hx
        rw [ev] at e1
        cases e1
        unfold ixL at e
        split at e
        · obtain ⟨u, eu, ru⟩ := atI_rv e3 e
          exact .inl ⟨p, vs, _, u, rfl, RV.int.mp r1, SqL.of e2, eu, h1 _ _ u (Ex.refl _) S1.1 ru⟩
        · cases e
      · rename_i x n hx
        split at e
        · rename_i hp
          obtain ⟨w2, e1, r2⟩ := S1.1.get hx hp
          rw [ev] at e1
          cases e1
          exact os_ix _ _ _ _ _ Hk1 H1 Q e S1.1.ex r2 r1 (fun u ru => h1 _ _ u (Ex.refl _) S1.1 ru) fun p ob hp' ru => h1 _ _ _ (Ex.new (S1.1.ex.back hp')) (S1.1.new hp') ru
        · cases e
      · cases e
  · exact h.elim
theorem me_ixV {i : Nat} {x : Str} {b : Expr} {mb : ME} {pos pos' : Pos} (hN : X.N[i]? = some x) (hv : Vis X.env.scope x) (hb : PE X b (rdE c mb)) (hK : c.K = X.K := by rfl) (hs : PlainIx b := by exact fun _ _ => rfl) (hd : (x == ("__debug__" : Str)) = false := by decide) (hcd : (x == ("__classdict__" : Str)) = false := by decide) :
    PE X (.Subscript (.Name x pos') b pos) (rdE c (mIxV i mb)) := PEw (pe_ix ix_seq (pe_var hN hv hd hcd) hb hs) fun _ _ _ q => by rw [← hK]; exact rd_ixV q
def mNo : Env → Res (Option Int × Env) := fun ρ => .ok (none, ρ)
def mPart (a : ME) : Env → Res (Option Int × Env) := fun ρ => (a ρ).bind fun x ρ1 => match x with | .int i => .ok (some i, ρ1) | _ => .stuck
def okP (c : Ct) (F Hk : Hp) (bp : List (Nat × Addr)) (σ : St) (Q : Option Int → Hp → Prop) : Res (Option Int × Env) → Prop
  | .ok (x, ρ') => ∀ Hk' H', Ex Hk Hk' → RS c.K F Hk' H' bp σ ρ' → Q x H'
  | .exc e ρ' => Wish c F Hk bp σ e ρ'
  | .stuck => False
theorem okP.mono {F Hk Hk' : Hp} {bp : List (Nat × Addr)} {σ : St} {Q : Option Int → Hp → Prop} {r : Res (Option Int × Env)} (x : Ex Hk Hk') (h : okP c F Hk bp σ Q r) : okP c F Hk' bp σ Q r := by
  cases r with
  | ok a => exact fun Hk2 H2 x2 => h Hk2 H2 (x.trans x2)
  | exc e ρ => exact Wish.mono x h
  | stuck => exact h
theorem postP {F : Hp} {bp : List (Nat × Addr)} {σ : St} {Q : Option Int → Hp → Prop} : Post c F bp σ fun Hk r => okP c F Hk bp σ Q r := ⟨fun _ _ _ h => h, fun _ h => h, fun _ _ _ x h => okP.mono x h⟩
def rdP (c : Ct) (m : Env → Res (Option Int × Env)) : TO := fun σ H Q => ∃ F Hk bp ρ, At c F Hk H bp σ ρ ∧ okP c F Hk bp σ Q (m ρ)
theorem POw {e : Option Expr} {t t' : TO} (h : PO X e t) (w : ∀ σ H Q, t' σ H Q → t σ H Q) : PO X e t' := ⟨fun pins s σ H Q I q => h.run pins s σ H Q I (w σ H Q q)⟩
theorem mp_none : PO X none (rdP c mNo) := POw po_none fun σ H Q ⟨F, Hk, bp, ρ, S, h⟩ => h _ _ (Ex.refl _) S.1
theorem mp_some {e : Expr} {m : ME} (h : PE X e (rdE c m)) : PO X (some e) (rdP c (mPart m)) := POw (po_some h) fun σ H Q ⟨F, Hk, bp, ρ, S, h⟩ => rdw (bE postP S h) fun v H1 ⟨Hk1, x, ρ1, x1, S1, r1, h1⟩ => by
  cases x with
  | int i => exact ⟨i, RV.int.mp r1, h1 _ _ (Ex.refl _) S1.1⟩
  | _ => exact h1.elim
theorem bP {F Hk H : Hp} {bp : List (Nat × Addr)} {σ : St} {ρ : Env} {β : Type} {P : Hp → Res (β × Env) → Prop} (p : Post c F bp σ P) {a : Env → Res (Option Int × Env)} {k : Option Int → Env → Res (β × Env)} (S : At c F Hk H bp σ ρ) (h : P Hk ((a ρ).bind k)) :
    rdP c a σ H fun b H1 => ∃ Hk1 ρ1, Ex Hk Hk1 ∧ At c F Hk1 H1 bp σ ρ1 ∧ P Hk1 (k b ρ1) := by
  refine ⟨F, Hk, bp, ρ, S, ?_⟩
  cases e : a ρ with
  | stuck => rw [e] at h; exact p.st _ h
  | exc x ρ' => rw [e] at h; exact p.ex _ _ _ h
  | ok q =>
    rw [e] at h
    exact fun Hk1 H1 x1 S1 => ⟨Hk1, q.2, x1, ⟨S1, S.2⟩, p.mono _ _ _ x1 h⟩
def cutM (xs : List MV) (lo hi : Option Int) : List MV := (xs.drop (HT.sIx xs.length 0 lo)).take (HT.sIx xs.length xs.length hi - HT.sIx xs.length 0 lo)
theorem RVs.cut {K : PySem.W.Frag} {H : Hp} {xs : List MV} {vs : List V} (r : RVs K H xs vs) (lo hi : Option Int) : RVs K H (cutM xs lo hi) (cutV vs lo hi) := by
  unfold cutM cutV
  rw [r.length]
  exact (r.drop _).take _
def fSl : MV → Option Int → Option Int → Option MV
  | .lst xs, lo, hi => some (.lst (cutM xs lo hi))
  | .tup xs, lo, hi => some (.tup (cutM xs lo hi))
  | .str z, lo, hi => if szOk z.length then some (.str (cutS z lo hi)) else none
  | _, _, _ => none
def rSlM (K : PySem.W.Frag) : V → Option Int → Option Int → Hp → VK → Prop := fun x lo hi H Q => rSlL K x lo hi H Q ∨ rSlA K x lo hi H Q ∨ rSlS x lo hi H Q
theorem sl_M : SlR X (rSlM X.K) := SlR.or sl_list (SlR.or sl_tupA sl_str)
theorem whole_cut {xs : List MV} {lo hi : Option Int} (h : HT.sIx xs.length 0 lo = 0 ∧ HT.sIx xs.length xs.length hi = xs.length) : cutM xs lo hi = xs := by
  unfold cutM
  rw [h.1, h.2]
  simp
theorem os_sl {K : PySem.W.Frag} {x z : MV} {lo hi : Option Int} {v : V} {Hk H : Hp} {Q : VK} (e : fSl x lo hi = some z) (ex : Ex Hk H) (r1 : RV K Hk x v) (q : ∀ u, RV K Hk z u → Q u H)
    (qn : ∀ p o, H p = none → RV K (upd Hk p o) z (.ref p) → Q (.ref p) (upd H p o)) : rSlM K v lo hi H Q := by
  unfold fSl at e
  split at e
  · cases e
    obtain ⟨p1, vs, rfl, h1, s1⟩ := RV.lst.mp r1
    refine .inl ⟨p1, vs, rfl, SqL.of (ex _ _ h1), fun p hp => qn p _ hp ?_⟩
    exact RV.lst.mpr ⟨p, _, rfl, upd_same, (s1.cut lo hi).mono (Ex.new (ex.back hp))⟩
  · cases e
    obtain ⟨p1, vs, rfl, h1, s1⟩ := RV.tup.mp r1
    refine .inr (.inl ⟨p1, vs, rfl, ex_t ex h1, fun hw => ?_, fun hw p hp => qn p _ hp ?_⟩)
    · rw [s1.length] at hw
      rw [whole_cut hw] at q
      exact q _ r1
    · exact RV.tup.mpr ⟨p, _, rfl, SqT.of upd_same, (s1.cut lo hi).mono (Ex.new (ex.back hp))⟩
  · split at e
    · rename_i hz
      cases e
      exact .inr (.inr ⟨_, RV.str.mp r1, szOk_iff.mp hz, q _ (RV.str.mpr rfl)⟩)
    · cases e
  · cases e
def mSl (a : ME) (l h : Env → Res (Option Int × Env)) : ME := fun ρ => (a ρ).bind fun x ρ1 => (l ρ1).bind fun i ρ2 => (h ρ2).bind fun j ρ3 => match fSl x i j with | some z => .ok (z, ρ3) | none => .stuck
theorem rd_sl {a : ME} {l h' : Env → Res (Option Int × Env)} {σ : St} {H : Hp} {Q : VK} (h : rdE c (mSl a l h') σ H Q) : tSl (rSlM c.K) (rdE c a) (rdP c l) (rdP c h') σ H Q := by
  obtain ⟨F, Hk, bp, ρ, S, h⟩ := h
  refine rdw (bE postE S h) fun v H1 ⟨Hk1, x, ρ1, x1, S1, r1, h1⟩ => ?_
  have w : ∀ {m : Env → Res (Option Int × Env)} {σ : St} {H : Hp} {Q Q' : Option Int → Hp → Prop}, rdP c m σ H Q → (∀ v H, Q v H → Q' v H) → rdP c m σ H Q' := fun {m σ H Q Q'} ⟨F, Hk, bp, ρ, S, q⟩ w => ⟨F, Hk, bp, ρ, S, by
    cases e : m ρ with
    | ok a => rw [e] at q; exact fun Hk2 H2 x S => w _ _ (q Hk2 H2 x S)
    | exc e' ρ => rw [e] at q; exact q
    | stuck => rw [e] at q; exact q⟩
  refine w (bP postE S1 h1) fun i H2 ⟨Hk2, ρ2, x2, S2, h2⟩ => ?_
  refine w (bP postE S2 h2) fun j H3 ⟨Hk3, ρ3, x3, S3, h3⟩ => ?_
  have h3 : okE c F Hk3 bp σ Q (match fSl x i j with | some z => .ok (z, ρ3) | none => .stuck) := h3
  cases e : fSl x i j with
  | none => rw [e] at h3; exact h3.elim
  | some z =>
    rw [e] at h3
    exact os_sl e S3.1.ex (RV.mono (x2.trans x3) _ _ r1) (fun u ru => h3 _ _ u (Ex.refl _) S3.1 ru) fun p ob hp ru => h3 _ _ _ (Ex.new (S3.1.ex.back hp)) (S3.1.new hp) ru
theorem me_sl {a : Expr} {lo hi : Option Expr} {ma : ME} {ml mh : Env → Res (Option Int × Env)} {pos p2 : Pos} (ha : PE X a (rdE c ma)) (hl : PO X lo (rdP c ml)) (hh : PO X hi (rdP c mh)) (hK : c.K = X.K := by rfl) : PE X (.Subscript a (.Slice lo hi none p2) pos) (rdE c (mSl ma ml mh)) :=
  PEw (pe_slice sl_M ha hl hh) fun _ _ _ q => by rw [← hK]; exact rd_sl q
section
variable {a b : Expr} {ma mb : ME} {pos : Pos}
theorem me_add (ha : PE X a (rdE c ma)) (hb : PE X b (rdE c mb)) (hK : c.K = X.K := by rfl) : PE X (.BinOp a .Add b pos) (rdE c (mOp fAdd ma mb)) := me_op op_addM (by rw [← hK]; exact os_add) ha hb
theorem me_sub (ha : PE X a (rdE c ma)) (hb : PE X b (rdE c mb)) : PE X (.BinOp a .Sub b pos) (rdE c (mOp fSub ma mb)) := me_op op_sub os_sub ha hb
theorem me_mul (ha : PE X a (rdE c ma)) (hb : PE X b (rdE c mb)) (hK : c.K = X.K := by rfl) : PE X (.BinOp a .Mult b pos) (rdE c (mOp fMul ma mb)) := me_op op_mulM (by rw [← hK]; exact os_mul) ha hb
theorem me_div (ha : PE X a (rdE c ma)) (hb : PE X b (rdE c mb)) : PE X (.BinOp a .FloorDiv b pos) (rdE c (mOp fDiv ma mb)) := me_op op_divM os_div ha hb
theorem me_mod (ha : PE X a (rdE c ma)) (hb : PE X b (rdE c mb)) : PE X (.BinOp a .Mod b pos) (rdE c (mOp fMod ma mb)) := me_op op_modN os_mod ha hb
theorem me_pow (ha : PE X a (rdE c ma)) (hb : PE X b (rdE c mb)) : PE X (.BinOp a .Pow b pos) (rdE c (mOp fPow ma mb)) := me_op op_pow os_pow ha hb
theorem me_bitand (ha : PE X a (rdE c ma)) (hb : PE X b (rdE c mb)) : PE X (.BinOp a .BitAnd b pos) (rdE c (mOp fAnd ma mb)) := me_op op_and os_and ha hb
theorem me_bitor (ha : PE X a (rdE c ma)) (hb : PE X b (rdE c mb)) : PE X (.BinOp a .BitOr b pos) (rdE c (mOp fOr ma mb)) := me_op op_or os_or ha hb
end
end
end Tm
set_option Elab.async false
set_option linter.all false
set_option maxRecDepth 100000
set_option maxHeartbeats 2000000
namespace Tm
open PySem L2
open Evl (Ex ex_rd ex_l ex_t)
section
variable {X : Cx} {c : Ct}
abbrev MG := MV → Env → Option Env
def okG (c : Ct) (F Hk : Hp) (bp : List (Nat × Addr)) (Q : St → Hp → Prop) : Option Env → Prop
  | some ρ' => ∀ Hk' H' σ', Ex Hk Hk' → RS c.K F Hk' H' bp σ' ρ' → Q σ' H'
  | none => False
def rdG (c : Ct) (m : MG) : TG := fun v σ H Q => ∃ F Hk bp ρ x, At c F Hk H bp σ ρ ∧ RV c.K Hk x v ∧ okG c F Hk bp Q (m x ρ)
def rdGs (c : Ct) (m : List MV → Env → Option Env) : TGs := fun vs σ H Q => ∃ F Hk bp ρ xs, At c F Hk H bp σ ρ ∧ RVs c.K Hk xs vs ∧ okG c F Hk bp Q (m xs ρ)
theorem PGw {e : Expr} {t t' : TG} (h : PG X e t) (w : ∀ v σ H Q, t' v σ H Q → t v σ H Q) : PG X e t' := ⟨fun pins s σ H v u Q I r q => h.run pins s σ H v u Q I r (w v σ H Q q)⟩
theorem PGsw {e : List Expr} {t t' : TGs} (h : PGs X e t) (w : ∀ v σ H Q, t' v σ H Q → t v σ H Q) : PGs X e t' := ⟨fun pins s σ H v u Q I r q => h.run pins s σ H v u Q I r (w v σ H Q q)⟩
def gSet (i : Nat) : MG := fun x ρ => if i < ρ.length then some (ρ.set i (some x)) else none
theorem nb {bp : List (Nat × Addr)} {bs : List Nat} {i : Nat} (e : bp.map (·.1) = bs) (h : bs.contains i = false) : ∀ q ∈ bp, q.1 ≠ i := fun q hq z => by
  have m : i ∈ bs := by rw [← e, ← z]; exact List.mem_map.mpr ⟨q, hq, rfl⟩
  rw [List.contains_eq_mem] at h
  simp [m] at h
theorem rd_gname {i : Nat} (hb : c.bs.contains i = false) {v : V} {σ : St} {H : Hp} {Q : St → Hp → Prop} (h : rdG c (gSet i) v σ H Q) : gName i v σ H Q := by
  obtain ⟨F, Hk, bp, ρ, y, S, r, h⟩ := h
  unfold gSet at h
  split at h
  · rename_i hl
    exact h _ _ _ (Ex.refl _) (S.1.set hl r (nb S.2.1 hb))
  · exact h.elim
theorem mg_name {i : Nat} {x : Str} {pos : Pos} (hN : X.N.Nodup) (hi : X.N[i]? = some x) (hx : Loc X.env.scope x) (hb : c.bs.contains i = false := by rfl) (hf : X.fn x = true ∨ X.env.scope.names.lookup x = some .local := by first | exact .inl rfl | exact .inr rfl | assumption) : PG X (.Name x pos) (rdG c (gSet i)) :=
  PGw (pg_name hN hi hx hf) fun v σ H Q h => rd_gname hb h
def gsNil : List MV → Env → Option Env := fun xs ρ => match xs with | [] => some ρ | _ => none
def gsCons (a : MG) (b : List MV → Env → Option Env) : List MV → Env → Option Env := fun xs ρ => match xs with
  | x :: r => (match a x ρ with | some ρ1 => b r ρ1 | none => none)
  | [] => none
def gTp (n : Nat) (b : List MV → Env → Option Env) : MG := fun x ρ => match x with
  | .tup xs => if xs.length = n then b xs ρ else none
  | .lst xs => if xs.length = n then b xs ρ else none
  | _ => none
theorem PGor {e : Expr} {t t' : TG} (h : PG X e t) (g : PG X e t') : PG X e fun v σ H Q => t v σ H Q ∨ t' v σ H Q := ⟨fun pins s σ H v u Q I r q => by
  rcases q with q | q
  · exact h.run pins s σ H v u Q I r q
  · exact g.run pins s σ H v u Q I r q⟩
theorem mgs_nil : PGs X [] (rdGs c gsNil) := PGsw pgs_nil fun vs σ H Q ⟨F, Hk, bp, ρ, xs, S, r, h⟩ => by
  cases xs with
  | nil => exact ⟨RVs.nil.mp r, h _ _ _ (Ex.refl _) S.1⟩
  | cons x xs => exact h.elim
theorem mgs_cons {e : Expr} {es : List Expr} {a : MG} {b : List MV → Env → Option Env} (h1 : PG X e (rdG c a)) (h2 : PGs X es (rdGs c b)) (hs : (assignEach (e :: es) X.env).map (·.2) = assign e X.env :: (assignEach es X.env).map (·.2) := by rfl) : PGs X (e :: es) (rdGs c (gsCons a b)) := PGsw (pgs_cons h1 h2 hs) fun vs σ H Q ⟨F, Hk, bp, ρ, xs, S, r, h⟩ => by
  cases xs with
  | nil => exact h.elim
  | cons x xs =>
    obtain ⟨v, us, rfl, r1, r2⟩ := RVs.cons.mp r
    refine ⟨v, us, rfl, F, Hk, bp, ρ, x, S, r1, ?_⟩
    have h : okG c F Hk bp Q (match a x ρ with | some ρ1 => b xs ρ1 | none => none) := h
    cases e : a x ρ with
    | none => rw [e] at h; exact h
    | some ρ1 =>
      rw [e] at h
      intro Hk1 H1 σ1 x1 S1
      refine ⟨F, Hk1, bp, ρ1, xs, ⟨S1, S.2⟩, r2.mono x1, ?_⟩
      have h : okG c F Hk bp Q (b xs ρ1) := h
      cases e2 : b xs ρ1 with
      | none => rw [e2] at h; exact h
      | some ρ2 => rw [e2] at h; exact fun Hk2 H2 σ2 x2 => h Hk2 H2 σ2 (x1.trans x2)
theorem mg_tup {es : List Expr} {k : Nat} {b : List MV → Env → Option Env} {n : Nat} {pos : Pos} (hc : X.calm = true) (h : PGs X es (rdGs c b)) (hK : c.K = X.K := by rfl)
    (hn : (assignEach es X.env).length = n := by rfl) (hst : (assignEach es X.env).findIdx? (·.1) = none := by rfl) : PG X (.Tuple es k pos) (rdG c (gTp n b)) := PGw (PGor (pg_tup hc h hn hst) (pg_unl hc h hn hst)) fun v σ H Q ⟨F, Hk, bp, ρ, x, S, r, h⟩ => by
  unfold gTp at h
  split at h
  · split at h
    · rename_i xs hl
      obtain ⟨a, vs, rfl, h1, s1⟩ := RV.tup.mp r
      rw [← hK]
      exact .inl ⟨a, vs, rfl, ex_t S.1.ex h1, by rw [s1.length]; exact hl, F, Hk, bp, ρ, xs, S, s1, h⟩
    · exact h.elim
  · split at h
    · rename_i xs hl
      obtain ⟨a, vs, rfl, h1, s1⟩ := RV.lst.mp r
      rw [← hK]
      exact .inr ⟨a, vs, rfl, SqL.of (S.1.ex _ _ h1), by rw [s1.length]; exact hl, F, Hk, bp, ρ, xs, S, s1, h⟩
    · exact h.elim
  · exact h.elim
def mAsg (a : ME) (g : MG) : MS := fun ρ => (a ρ).bind fun x ρ1 => match g x ρ1 with | some ρ2 => .ok (.nx, ρ2) | none => .stuck
theorem rd_asg {a : ME} {g : MG} {D : Ends} {σ : St} {H : Hp} (h : rdS c (mAsg a g) D σ H) : tAsg (rdE c a) (rdG c g) D σ H := by
  obtain ⟨F, Hk, bp, ρ, S, h⟩ := h
  refine rdw (bE (postS (σ := σ)) S h) fun v H1 ⟨Hk1, x, ρ1, x1, S1, r1, h1⟩ => ⟨F, Hk1, bp, ρ1, x, S1, r1, ?_⟩
  have h1 : okS c F Hk1 bp D (match g x ρ1 with | some ρ2 => .ok (.nx, ρ2) | none => .stuck) := h1
  cases e : g x ρ1 with
  | none => rw [e] at h1; exact h1
  | some ρ2 => rw [e] at h1; exact h1
theorem ms_asg {tg e : Expr} {a : ME} {g : MG} {pos : Pos} (he : PE X e (rdE c a)) (hg : PG X tg (rdG c g)) (hs : swapsWithSole [tg] e pos.line X.env = pure false := by rfl) (hw : swappedStores [tg] e X.env = pure none := by rfl)
    (h1 : (assignEach [tg] X.env).map (·.2) = [assign tg X.env] := by rfl) : PS X (.Assign [tg] e pos) (rdS c (mAsg a g)) := PSw (ps_asg he hg hs hw h1) fun _ _ _ h => rd_asg h
theorem rd_set {i : Nat} (hb : c.bs.contains i = false) {a : ME} {D : Ends} {σ : St} {H : Hp} (h : rdS c (mAsg a (gSet i)) D σ H) : tAsg (rdE c a) (gName i) D σ H := rdw (rd_asg h) fun _ _ q => rd_gname hb q
theorem ms_set {i : Nat} {x : Str} {e : Expr} {a : ME} {pos pos' : Pos} (hN : X.N.Nodup) (hi : X.N[i]? = some x) (hx : Loc X.env.scope x) (he : PE X e (rdE c a)) (hb : c.bs.contains i = false := by rfl) (hs : swapsWith e (some (.Name x pos')) pos.line X.env = pure false := by rfl)
    (hf : X.fn x = true ∨ X.env.scope.names.lookup x = some .local := by first | exact .inl rfl | exact .inr rfl | assumption) : PS X (.Assign [.Name x pos'] e pos) (rdS c (mAsg a (gSet i))) := PSw (ps_set hN hi hx he hs hf) fun _ _ _ h => rd_set hb h
def mSetO (i : Nat) (a : ME) : MS := fun ρ => (a ρ).bind fun x ρ1 => if i < ρ1.length then .ok (.nx, ρ1.set i (some x)) else .stuck
theorem rd_setO {i : Nat} {a : ME} {D : Ends} {σ : St} {H : Hp} (hb : c.bs.contains i = false) (h : rdS c (mSetO i a) D σ H) : tAsg (rdO c a) (gName i) D σ H := by
  obtain ⟨F, Hk, bp, ρ, S, h⟩ := h
  refine rdOw (bO (postS (σ := σ)) S h) fun v H1 ⟨Hk1, x, ρ1, x1, S1, h1⟩ => ?_
  split at h1
  · rename_i hl
    refine h1 _ _ _ (Ex.refl _) (S1.take hl fun q hq => ⟨nb S.2.1 hb q hq, ?_⟩)
    have l1 : σ.length = ρ1.length := by have := S1.len; simpa using this
    rw [← l1]
    exact lt_get (S.1.bor q hq)
  · exact h1.elim
theorem ms_setO {i : Nat} {x : Str} {e : Expr} {a : ME} {pos pos' : Pos} (hN : X.N.Nodup) (hi : X.N[i]? = some x) (hx : Loc X.env.scope x) (he : PE X e (rdO c a)) (hb : c.bs.contains i = false := by rfl) (hs : swapsWith e (some (.Name x pos')) pos.line X.env = pure false := by rfl)
    (hf : X.fn x = true ∨ X.env.scope.names.lookup x = some .local := by first | exact .inl rfl | exact .inr rfl | assumption) : PS X (.Assign [.Name x pos'] e pos) (rdS c (mSetO i a)) := PSw (ps_set hN hi hx he hs hf) fun _ _ _ h => rd_setO hb h
def mPass : MS := fun ρ => .ok (.nx, ρ)
def mSeq (a b : MS) : MS := fun ρ => (a ρ).bind fun f ρ1 => match f with | .nx => b ρ1 | f => .ok (f, ρ1)
theorem okS.seq {F Hk : Hp} {bp : List (Nat × Addr)} {D : Ends} {b : MS} (eb : bp.map (·.1) = c.bs ∧ c.J F bp) {r : Res (Fl × Env)} (h : okS c F Hk bp D (r.bind fun f ρ1 => match f with | .nx => b ρ1 | f => .ok (f, ρ1))) : okS c F Hk bp { D with nx := rdS c b D } r := by
  cases r with
  | stuck => exact h
  | exc e ρ => exact h
  | ok q =>
    obtain ⟨f, ρ1⟩ := q
    cases f with
    | nx => exact fun Hk1 H1 σ1 x1 S1 => ⟨F, Hk1, bp, ρ1, ⟨S1, eb⟩, okS.mono x1 h⟩
    | br => exact h
    | ct => exact h
    | rt x => exact h
theorem rd_seq {a b : MS} {D : Ends} {σ : St} {H : Hp} (h : rdS c (mSeq a b) D σ H) : tSeq (rdS c a) (rdS c b) D σ H := by
  obtain ⟨F, Hk, bp, ρ, S, h⟩ := h
  exact ⟨F, Hk, bp, ρ, S, okS.seq S.2 h⟩
theorem mss_nil : PSs X [] (rdS c mPass) := PSsw pss_nil fun D σ H ⟨F, Hk, bp, ρ, S, h⟩ => h _ _ _ (Ex.refl _) S.1
theorem mss_one {st : Stmt} {a : MS} (h : PS X st (rdS c a)) : PSs X [st] (rdS c a) := pss_one h
theorem mss_cons {st : Stmt} {r : List Stmt} {a b : MS} (h : PS X st (rdS c a)) (g : PSs X r (rdS c b)) : PSs X (st :: r) (rdS c (mSeq a b)) := PSsw (pss_cons h g) fun _ _ _ q => rd_seq q
def mIfS (t : MT) (a b : MS) : MS := fun ρ => (t ρ).bind fun x ρ1 => if x then a ρ1 else b ρ1
theorem ms_if {t : Expr} {a b : List Stmt} {mt : MT} {ma mb : MS} {pos : Pos} (ht : PT X t (rdT c mt)) (ha : PSs X a (rdS c ma)) (hb : PSs X b (rdS c mb)) : PS X (.If t a b pos) (rdS c (mIfS mt ma mb)) := PSw (ps_if ht ha hb) fun D σ H ⟨F, Hk, bp, ρ, S, h⟩ => by
  refine rdTw (bT (postS (σ := σ)) S h) fun k H1 ⟨Hk1, ρ1, x1, S1, h1⟩ => ?_
  cases k with
  | true => rw [if_pos rfl] at h1 ⊢; exact ⟨F, Hk1, bp, ρ1, S1, h1⟩
  | false => rw [if_neg (by decide)] at h1 ⊢; exact ⟨F, Hk1, bp, ρ1, S1, h1⟩
def mRet (a : ME) : MS := fun ρ => (a ρ).bind fun x ρ1 => .ok (.rt x, ρ1)
theorem ms_ret {e : Expr} {a : ME} {pos : Pos} (h : PE X e (rdE c a)) : PS X (.Return (some e) pos) (rdS c (mRet a)) := PSw (ps_ret h) fun D σ H ⟨F, Hk, bp, ρ, S, h⟩ =>
  rdw (bE (postS (σ := σ)) S h) fun v H1 ⟨Hk1, x, ρ1, x1, S1, r1, h1⟩ => h1 _ _ _ _ (Ex.refl _) (fun q hq => lt_get (S.1.bor q hq)) (S1.1.push r1)
theorem ms_retO {e : Expr} {a : ME} {pos : Pos} (h : PE X e (rdO c a)) : PS X (.Return (some e) pos) (rdS c (mRet a)) := PSw (ps_ret h) fun D σ H ⟨F, Hk, bp, ρ, S, h⟩ =>
  rdOw (bO (postS (σ := σ)) S h) fun v H1 ⟨Hk1, x, ρ1, x1, S1, h1⟩ => h1 _ _ _ _ (Ex.refl _) (fun q hq => lt_get (S.1.bor q hq)) S1
def mDrop (a : ME) : MS := fun ρ => (a ρ).bind fun _ ρ1 => .ok (.nx, ρ1)
theorem ms_expr {e : Expr} {a : ME} {pos : Pos} (h : PE X e (rdE c a)) (hs : swapsWith e none pos.line X.env = pure false := by rfl) : PS X (.Expr e pos) (rdS c (mDrop a)) := PSw (ps_expr h hs) fun D σ H ⟨F, Hk, bp, ρ, S, h⟩ =>
  rdw (bE (postS (σ := σ)) S h) fun v H1 ⟨Hk1, x, ρ1, x1, S1, r1, h1⟩ => h1 _ _ _ (Ex.refl _) S1.1
def mMove (i : Nat) : ME := fun ρ => match ρ[i]? with
  | some (some (.obj _ _)) => .stuck
  | some (some x) => .ok (x, ρ.set i none)
  | _ => .stuck
def mAug (f : MV → MV → Option MV) (i : Nat) (a : ME) : MS := fun ρ => match ρ[i]? with
  | some (some x) => if flatM x then (a ρ).bind fun y ρ1 => (match f x y with | some z => if decide (i < ρ1.length) && flatM z then .ok (.nx, ρ1.set i (some z)) else .stuck | none => .stuck) else .stuck
  | _ => .stuck
theorem rd_move {i : Nat} (hb : c.bs.contains i = false) {σ : St} {H : Hp} {Q : VK} (h : rdO c (mMove i) σ H Q) : tVar i σ H Q := by
  obtain ⟨F, Hk, bp, ρ, S, h⟩ := h
  unfold mMove at h
  split at h
  · exact h.elim
  · rename_i x n hx
    obtain ⟨ow, s⟩ := S.1.ow
    obtain ⟨v, ev, ov⟩ := s.s i x hx
    have li := lt_get hx
    refine ⟨v, ev, h Hk H v (Ex.refl _) ?_⟩
    refine ⟨by simp [S.1.len], S.1.ex, S.1.fr, S.1.frk, ⟨put (put ow i []) ρ.length (ow i), ?_⟩, S.1.bor_app _⟩
    have nl : i ≠ ρ.length := Nat.ne_of_lt li
    have mem : ∀ j a, a ∈ put (put ow i []) ρ.length (ow i) j → (j = ρ.length ∧ a ∈ ow i) ∨ (j ≠ i ∧ j < ρ.length ∧ a ∈ ow j) := fun j a h => by
      by_cases e : j = ρ.length
      · rw [e, put_same] at h; exact .inl ⟨e, h⟩
      · rw [put_ne e] at h
        by_cases e2 : j = i
        · rw [e2, put_same] at h; cases h
        · rw [put_ne e2] at h
          exact .inr ⟨e2, s.w j (by intro z; rw [z] at h; cases h), h⟩
    refine ⟨fun j y hj => ?_, fun j a hj => ?_, fun j hj => ?_, fun j k a hjk hj hk => ?_⟩
    · rcases app_get hj with ⟨e1, e2⟩ | ⟨lt, e2⟩
      · cases e2
        rw [List.length_set] at e1
        refine ⟨v, by rw [e1, ← S.1.len]; simp, ?_⟩
        rw [e1, put_same]; exact ov
      · rcases set_get e2 with ⟨_, e3⟩ | ⟨ne, e3⟩
        · cases e3
        · obtain ⟨w, w1, w2⟩ := s.s j y e3
          have lj := lt_get e3
          exact ⟨w, by rw [List.getElem?_append_left (by rw [S.1.len]; exact lj)]; exact w1, by rw [put_ne (Nat.ne_of_lt lj), put_ne ne]; exact w2⟩
    · rcases mem j a hj with ⟨_, m⟩ | ⟨_, _, m⟩
      · exact s.f i a m
      · exact s.f j a m
    · cases e : put (put ow i []) ρ.length (ow i) j with
      | nil => exact (hj e).elim
      | cons a r =>
        rcases mem j a (by rw [e]; simp) with ⟨e, _⟩ | ⟨_, l, _⟩
        · rw [e]; simp
        · simp; omega
    · rcases mem j a hj with ⟨e1, m⟩ | ⟨e1, l1, m⟩ <;> rcases mem k a hk with ⟨e2, m2⟩ | ⟨e2, l2, m2⟩
      · exact hjk (e1.trans e2.symm)
      · exact s.d i k a (Ne.symm e2) m m2
      · exact s.d j i a e1 m m2
      · exact s.d j k a hjk m m2
  · exact h.elim
theorem mo_var {i : Nat} {x : Str} {pos : Pos} (hN : X.N[i]? = some x) (hv : Vis X.env.scope x) (hb : c.bs.contains i = false := by rfl) (hd : (x == ("__debug__" : Str)) = false := by decide) (hcd : (x == ("__classdict__" : Str)) = false := by decide) : PE X (.Name x pos) (rdO c (mMove i)) :=
  PEw (pe_var hN hv hd hcd) fun _ _ _ h => rd_move hb h
def ipM (f : MV → MV → Option MV) (t : TIp) (K : PySem.W.Frag) : Prop := ∀ (x y z : MV) (v w : V) (Hk H : Hp) (Q : VK), f x y = some z → flatM x = true → RV K Hk x v → RV K Hk y w → (∀ u, RV K Hk z u → Q u H) → t v w H Q
theorem im_add {K : PySem.W.Frag} : ipM (fun x y => match x, y with | .int i, .int j => some (.int (i + j)) | _, _ => none) (ipI fun i j => i + j) K := by
  intro x y z v w Hk H Q e _ r1 r2 q
  dsimp only at e
  split at e
  · cases e; exact ⟨_, _, RV.int.mp r1, RV.int.mp r2, q _ (RV.int.mpr rfl)⟩
  · cases e
def fAddI : MV → MV → Option MV := fun x y => match x, y with | .int i, .int j => some (.int (i + j)) | _, _ => none
theorem rd_aug {f : MV → MV → Option MV} {t : TIp} (o : ipM f t c.K) {i : Nat} (hb : c.bs.contains i = false) {a : ME} {D : Ends} {σ : St} {H : Hp} (h : rdS c (mAug f i a) D σ H) : tAug i (rdE c a) t D σ H := by
  obtain ⟨F, Hk, bp, ρ, S, h⟩ := h
  unfold mAug at h
  split at h
  · rename_i x hx
    split at h
    · rename_i hf
      have px : x.per = true := by cases x <;> first | rfl | cases hf
      obtain ⟨v, ev, rv⟩ := S.1.get hx px
      refine ⟨v, ev, ?_⟩
      refine rdw (bE (postS (σ := σ)) S h) fun w H1 ⟨Hk1, y, ρ1, x1, S1, r1, h1⟩ => ?_
      split at h1
      · rename_i z ez
        split at h1
        · rename_i hl
          rw [Bool.and_eq_true] at hl
          refine o x y z v w Hk1 H1 _ ez hf (flat_rv hf rv) r1 fun u ru => ?_
          exact h1 _ _ _ (Ex.refl _) (S1.1.set (of_decide_eq_true hl.1) ru (nb S.2.1 hb))
        · exact h1.elim
      · exact h1.elim
    · exact h.elim
  · exact h.elim
theorem ms_augAdd {i : Nat} {x : Str} {e : Expr} {a : ME} {pos pos' : Pos} (hN : X.N.Nodup) (hi : X.N[i]? = some x) (hx : Loc X.env.scope x) (he : PE X e (rdE c a)) (hb : c.bs.contains i = false := by rfl)
    (hf : X.fn x = true ∨ X.env.scope.names.lookup x = some .local := by first | exact .inl rfl | exact .inr rfl | assumption) : PS X (.AugAssign (.Name x pos') .Add e pos) (rdS c (mAug fAddI i a)) := PSw (ps_aug hN hi hx he ip_add hf) fun _ _ _ h => rd_aug im_add hb h
end
end Tm
set_option Elab.async false
set_option linter.all false
set_option maxRecDepth 100000
set_option maxHeartbeats 2000000
namespace Tm
open PySem L2 PySem.Spec PyProof.Rows
structure ZSrc (P : Program) (w : World) (K : PySem.W.Frag) (it : Addr) (fp : List Addr) (S : Hp → List V → Prop) (tn : Nat → Heap → Prop) : Prop where
  obj : ∀ i h, tn i h → ∃ o, h.get? it = some o ∧ ∀ v, o.data ≠ .cell v
  keep : ∀ i h h', tn i h → (∀ o, h.get? it = some o → h'.get? it = some o) → tn i h'
  inj : ∀ (X : Cx), X.K = K → ∀ pins (s : Shared) σ H xs ys, Inv X pins σ H s → S H xs → S H ys → xs = ys
  draw : ∀ (X : Cx), X.prog = P → X.w = w → X.K = K → X.calm = true → ∀ pins (s : Shared) σ H xs i, Inv X pins σ H s → S H xs → tn i s.heap →
    ∃ (Y : Nat → Value → Prop) (St : Nat → Heap → Prop), Draws P w X.A.in1 it fp xs.length Y St ∧ St i s.heap ∧ (∀ j u, Y j u → ∃ x, xs[j]? = some x ∧ RelV x u) ∧ ∀ j h, St j h → tn j h
def ItzG (S1 S2 : Hp → List V → Prop) : It :=
  ⟨fun i H => ∃ (l1 l2 : List V) (x y : V), S1 H l1 ∧ S2 H l2 ∧ l1[i]? = some x ∧ l2[i]? = some y,
    fun i H v H' => ∃ p x y, v = .ref p ∧ H p = none ∧ H' = upd H p (.tup [x, y]) ∧ (∀ l, S1 H l → l[i]? = some x) ∧ ∀ l, S2 H l → l[i]? = some y,
    fun i H => ∃ l1 l2 : List V, S1 H l1 ∧ S2 H l2 ∧ (i = l1.length ∧ l1.length ≤ l2.length ∨ i = l2.length ∧ l2.length ≤ l1.length)⟩
section
variable {P : Program} {w : World} {K : PySem.W.Frag} {elts : List Expr} {kk : Nat} {tpos : Pos} {z TI TO i1 i2 : Addr} {f1 f2 : List Addr} {S1 S2 : Hp → List V → Prop} {tn1 tn2 : Nat → Heap → Prop}
theorem turn_zipG (D : ZipSep2 z TI TO i1 i2 f1 f2) (A1 : ZSrc P w K i1 f1 S1 tn1) (A2 : ZSrc P w K i2 f2 S2 tn2) :
    Turn P w K (.Tuple elts kk tpos) (ItzG S1 S2) [z, TI, TO, i1, i2] z (fun i h => (IsZip h z TI TO .none ∧ IsTupOf2 h TI (.ref i1) (.ref i2) ∧ ∃ x y, IsTupOf2 h TO x y) ∧ tn1 i h ∧ tn2 i h) where
  mem := List.mem_cons_self ..
  obj := by
    rintro i h ⟨⟨gz, gT, p0, q0, gO⟩, t1, t2⟩ c hc
    simp only [List.mem_cons, List.not_mem_nil, or_false] at hc
    rcases hc with rfl | rfl | rfl | rfl | rfl
    · exact ⟨_, gz, by intro v e; cases e⟩
    · exact ⟨_, gT, by intro v e; cases e⟩
    · exact ⟨_, gO, by intro v e; cases e⟩
    · exact A1.obj i h t1
    · exact A2.obj i h t2
  keep := by
    rintro i h h' ⟨⟨gz, gT, p0, q0, gO⟩, t1, t2⟩ hk
    exact ⟨⟨hk z (by simp) _ gz, hk TI (by simp) _ gT, p0, q0, hk TO (by simp) _ gO⟩, A1.keep i h h' t1 (hk i1 (by simp)), A2.keep i h h' t2 (hk i2 (by simp))⟩
  item := by
    intro X hP hw hK hc i pins s σ H E I hf st hg
    subst hP; subst hw; subst hK
    obtain ⟨⟨gz, gT, p0, q0, gO⟩, t1, t2⟩ := st
    obtain ⟨l1, l2, x, y, b1, b2, g1, g2⟩ := hg
    obtain ⟨Y1, St1, d1, e1, r1, k1⟩ := A1.draw X rfl rfl rfl hc pins s σ H l1 i I b1 t1
    obtain ⟨Y2, St2, d2, e2, r2, k2⟩ := A2.draw X rfl rfl rfl hc pins s σ H l2 i I b2 t2
    have m1 : i < l1.length := (List.getElem?_eq_some_iff.mp g1).1
    have m2 : i < l2.length := (List.getElem?_eq_some_iff.mp g2).1
    have zlt : z < s.heap.objs.size := Heap.lt_size gz
    refine wpAny_pyNext_zipD2_item D d1 d2 gz gT gO e1 e2 m1 m2 fun u1 u2 hp tk y1 y2 gz' gO' e1' e2' gN sz hk => ⟨_, rfl, ?_⟩
    obtain ⟨x', a1, v1⟩ := r1 i u1 y1
    obtain ⟨y', a2, v2⟩ := r2 i u2 y2
    rw [g1] at a1
    rw [g2] at a2
    cases a1
    cases a2
    refine wpAny_letOwnedTupleGo_zip (s := { s with heap := hp, toks := tk }) gz' fun hq gq sb => ?_
    have keep : ∀ c o, c ∉ [z, TI, TO, i1, i2] → s.heap.get? c = some o → hq.get? c = some o := by
      intro c o nc ec
      simp only [List.mem_cons, List.not_mem_nil, or_false, not_or] at nc
      exact (sb.2 c nc.1).trans (hk c o nc.1 nc.2.2.1 nc.2.2.2.1 nc.2.2.2.2 ec)
    have gT2 : IsTupOf2 hq s.heap.objs.size u1 u2 := (sb.2 _ (Nat.ne_of_gt zlt)).trans gN
    have new : ObjOk X.prog X.w (upd H s.heap.objs.size (.tup [x, y])) hq s.heap.objs.size (.tup [x, y]) :=
      ⟨by show 2 ≤ sizeLine; decide, [u1, u2], .cons v1 (.cons v2 .nil), ⟨_, gT2, rfl, _, rfl⟩⟩
    have I1 : Inv X pins σ (upd H s.heap.objs.size (.tup [x, y])) { s with heap := hq, toks := tk } := Inv.turnedNew I keep hf (Nat.le_refl _) new
    refine ⟨.ref s.heap.objs.size, _, I1, rfl, ⟨_, x, y, rfl, I.hok.fresh (Nat.le_refl _), rfl, fun l hl => ?_, fun l hl => ?_⟩, ⟨⟨gq, ?_, u1, u2, ?_⟩, ?_, ?_⟩, ?_⟩
    · rw [A1.inj X rfl pins s σ H l l1 I hl b1]; exact g1
    · rw [A2.inj X rfl pins s σ H l l2 I hl b2]; exact g2
    · exact (sb.2 TI D.TIz).trans (hk TI _ D.TIz D.TITO D.TIi1 D.TIi2 gT)
    · exact (sb.2 TO D.TOz).trans gO'
    · exact A1.keep _ hp hq (k1 _ _ e1') fun o e => (sb.2 i1 (Ne.symm D.zi1)).trans e
    · exact A2.keep _ hp hq (k2 _ _ e2') fun o e => (sb.2 i2 (Ne.symm D.zi2)).trans e
    · intro c hcm
      have clt : c < s.heap.objs.size := by
        simp only [List.mem_cons, List.not_mem_nil, or_false] at hcm
        rcases hcm with rfl | rfl | rfl | rfl | rfl
        · exact zlt
        · exact Heap.lt_size gT
        · exact Heap.lt_size gO
        · obtain ⟨o, eo, _⟩ := A1.obj i s.heap t1
          exact Heap.lt_size eo
        · obtain ⟨o, eo, _⟩ := A2.obj i s.heap t2
          exact Heap.lt_size eo
      rw [upd_ne (Nat.ne_of_lt clt)]
      exact (hf c hcm).1
  done := by
    intro X hP hw hK hc i pins s σ H E I hf st hg
    subst hP; subst hw; subst hK
    obtain ⟨⟨gz, gT, p0, q0, gO⟩, t1, t2⟩ := st
    obtain ⟨l1, l2, b1, b2, hend⟩ := hg
    obtain ⟨Y1, St1, d1, e1, r1, k1⟩ := A1.draw X rfl rfl rfl hc pins s σ H l1 i I b1 t1
    obtain ⟨Y2, St2, d2, e2, r2, k2⟩ := A2.draw X rfl rfl rfl hc pins s σ H l2 i I b2 t2
    refine wpAny_pyNext_zipD2_end D d1 d2 gz gT gO e1 e2 (by omega) (by omega) (by omega) fun hp tk hk => ⟨rfl, Inv.turnedL I (fun c o nc ec => ?_) hf⟩
    simp only [List.mem_cons, List.not_mem_nil, or_false, not_or] at nc
    exact hk c o nc.1 nc.2.2.1 nc.2.2.2.1 nc.2.2.2.2 ec
  self := fun A i s Q E st h => wpAny_pyIter_zip st.1.1 h
end
section
variable {P : Program} {w : World} {K : PySem.W.Frag}
theorem vals_back {xs : List V} {us : List Value} {j : Nat} {u : Value} (r : Vals xs us) (h : us[j]? = some u) : ∃ x, xs[j]? = some x ∧ RelV x u := by
  have lt : j < xs.length := by rw [r.length]; exact (List.getElem?_eq_some_iff.mp h).1
  obtain ⟨u', h1, h2⟩ := r.get (List.getElem?_eq_getElem lt)
  rw [h] at h1
  cases h1
  exact ⟨_, List.getElem?_eq_getElem lt, h2⟩
theorem zsrc_l {it a : Addr} (ne : a ≠ it) : ZSrc P w K it [it, a] (fun H xs => SqL K H a xs) (fun i h => h.IsListIter it a i) where
  obj := fun i h ⟨o, e, _, d⟩ => ⟨o, e, by intro v q; rw [d] at q; cases q⟩
  keep := fun i h h' t k => t.at k
  inj := fun X hK pins s σ H xs ys I h1 h2 => by subst hK; exact I.list_inj h1 h2
  draw := fun X hP hw hK hc pins s σ H xs i I h t => by
    subst hP; subst hw; subst hK
    obtain ⟨its, rv, p, _⟩ := I.list h
    have D := Draws.list (prog := X.prog) (w := X.w) (show X.A.in1.handled = none from I.ok.hd hc) it a ne its.toArray
    rw [show its.toArray.size = xs.length by rw [rv.length]; rfl] at D
    exact ⟨_, _, D, ⟨t, p.isList⟩, fun j u hu => vals_back rv (by simpa using hu), fun j h q => q.1⟩
theorem zsrc_t {it a : Addr} (ne : a ≠ it) : ZSrc P w K it [it, a] (fun H xs => SqT K H a xs) (fun i h => h.IsTupleIter it a i) where
  obj := fun i h ⟨o, e, _, d⟩ => ⟨o, e, by intro v q; rw [d] at q; cases q⟩
  keep := fun i h h' t k => t.at k
  inj := fun X hK pins s σ H xs ys I h1 h2 => by subst hK; exact I.tuple_inj h1 h2
  draw := fun X hP hw hK hc pins s σ H xs i I h t => by
    subst hP; subst hw; subst hK
    obtain ⟨its, rv, p, _⟩ := I.tuple h
    have D := Draws.tuple (prog := X.prog) (w := X.w) (show X.A.in1.handled = none from I.ok.hd hc) it a ne its.toArray
    rw [show its.toArray.size = xs.length by rw [rv.length]; rfl] at D
    exact ⟨_, _, D, ⟨t, p⟩, fun j u hu => vals_back rv (by simpa using hu), fun j h q => q.1⟩
def signsV (x : Str) : List V := x.cps.toList.map fun c => V.str ⟨#[c]⟩
theorem zsrc_s {it : Addr} {x : Str} {tk : Tok} : ZSrc P w K it [it] (fun _ xs => xs = signsV x) (fun i h => h.IsStrIter it (strIterType x) x tk i) where
  obj := fun i h ⟨o, e, _, d⟩ => ⟨o, e, by intro v q; rw [d] at q; cases q⟩
  keep := fun i h h' ⟨o, e, r⟩ k => ⟨o, k o e, r⟩
  inj := fun X hK pins s σ H xs ys I h1 h2 => by rw [h1, h2]
  draw := fun X hP hw hK hc pins s σ H xs i I h t => by
    subst hP; subst hw; subst h
    have D := Draws.text (prog := X.prog) (w := X.w) (show X.A.in1.handled = none from I.ok.hd hc) it x tk
    rw [show x.cps.size = (signsV x).length by simp [signsV]] at D
    refine ⟨_, _, D, t, fun j u ⟨c, k, h1, h2⟩ => ⟨.str ⟨#[c]⟩, ?_, ?_⟩, fun j h q => q⟩
    · unfold signsV
      rw [List.getElem?_map, Array.getElem?_toList, h1]; rfl
    · rw [h2]; exact ⟨k, rfl⟩
def ZArg (K : PySem.W.Frag) (H : Hp) (v : V) (S : Hp → List V → Prop) : Prop :=
  (∃ a xs, v = .ref a ∧ SqL K H a xs ∧ S = fun H xs => SqL K H a xs) ∨ (∃ a xs, v = .ref a ∧ SqT K H a xs ∧ S = fun H xs => SqT K H a xs) ∨ ∃ x, v = .str x ∧ S = fun _ xs => xs = signsV x
theorem zarg_begins {X : Cx} {pins : List (Addr × Obj)} {σ : L2.St} {H : Hp} {s : Shared} {v : V} {u : Value} {S : Hp → List V → Prop} (I : Inv X pins σ H s) (r : RelV v u) (h : ZArg X.K H v S) :
    ∃ (o : Obj) (Hb : Heap → Prop) (fp : List Addr), Begins u o Hb ∧ Hb s.heap ∧ (∀ b ∈ fp, b < s.heap.objs.size) ∧
      ∀ it, s.heap.objs.size ≤ it → ∃ tn : Nat → Heap → Prop, ZSrc X.prog X.w X.K it (it :: fp) S tn ∧ ∀ h', h'.get? it = some o → tn 0 h' := by
  rcases h with ⟨a, xs, rfl, hq, rfl⟩ | ⟨a, xs, rfl, hq, rfl⟩ | ⟨x, rfl, rfl⟩
  · cases r
    obtain ⟨its, rv, p, _⟩ := I.list hq
    have lt : a < s.heap.objs.size := p.lt
    exact ⟨_, _, [a], begins_list a its.toArray, p.isList, by simpa using lt, fun it hit => ⟨_, zsrc_l (Nat.ne_of_lt (Nat.lt_of_lt_of_le lt hit)), fun h' e => ⟨_, e, rfl, rfl⟩⟩⟩
  · cases r
    obtain ⟨its, rv, p, _⟩ := I.tuple hq
    have lt : a < s.heap.objs.size := by obtain ⟨o, e, _⟩ := id p; exact Heap.lt_size e
    exact ⟨_, _, [a], begins_tuple a its.toArray, p, by simpa using lt, fun it hit => ⟨_, zsrc_t (Nat.ne_of_lt (Nat.lt_of_lt_of_le lt hit)), fun h' e => ⟨_, e, rfl, rfl⟩⟩⟩
  · obtain ⟨tk, rfl⟩ := r
    exact ⟨_, _, [], begins_text x tk, trivial, by simp, fun it hit => ⟨_, zsrc_s, fun h' e => ⟨_, e, rfl, rfl⟩⟩⟩
end
def iZipG (K : PySem.W.Frag) (ta : TA) : TI := fun σ H R => ta σ H fun vs H1 => ∃ v1 v2 S1 S2, vs = [v1, v2] ∧ ZArg K H1 v1 S1 ∧ ZArg K H1 v2 S2 ∧ R (ItzG S1 S2) H1
theorem pi_zipG {X : Cx} {e e2 : Expr} {ta : TA} {p pos tpos : Pos} {elts : List Expr} {kk : Nat} (hg : Gl X "zip") (hm : X.mg "zip" = none) (ha : PA X [e, e2] ta)
    (hs : starEach [e, e2] X.env = (false, eval e X.env) :: starEach [e2] X.env := by rfl) (hpl : (backTo pos (starEach [e2] X.env)).any (·.1) = false := by rfl) :
    PI X (.Tuple elts kk tpos) (.Call (.Name "zip" p) [e, e2] [] pos) (iZipG X.K ta) := ⟨fun pins s σ H R I h => by
  refine Call_ (ld_blt I hg hm PyProof.Rows.boot_zip (PyProof.Rows.callWith_type1 (thn (ha.run pos pins s σ H _ I h) fun us s1 q => ?_) hs hpl))
  obtain ⟨vs, H1, I1, r1, v1, v2, S1, S2, ex, z1, z2, q⟩ := q
  subst ex
  cases r1 with
  | cons ra rr =>
    cases rr with
    | cons rb rr =>
      cases rr
      obtain ⟨o1, Hb1, fp1, B1, b1, lt1, k1⟩ := zarg_begins I1 ra z1
      obtain ⟨o2, Hb2, fp2, B2, b2, lt2, k2⟩ := zarg_begins I1 rb z2
      obtain ⟨tn1, A1, t1⟩ := k1 s1.heap.objs.size (Nat.le_refl _)
      obtain ⟨tn2, A2, t2⟩ := k2 (s1.heap.objs.size + 1) (Nat.le_add_right _ _)
      refine zip_begins2 B1 B2 b1 b2 fun h' gz gT gO g1 g2 sz hk => wpAny_pyIter_zip gz ?_
      have I2 : Inv X pins σ H1 { s1 with heap := h' } := I1.kept (t' := s1.toks) hk
      have new : ∀ c ∈ [s1.heap.objs.size + 4, s1.heap.objs.size + 2, s1.heap.objs.size + 3, s1.heap.objs.size, s1.heap.objs.size + 1], FpOk X pins H1 c := by
        intro c hc
        have le : s1.heap.objs.size ≤ c := by
          simp only [List.mem_cons, List.not_mem_nil, or_false] at hc
          rcases hc with rfl | rfl | rfl | rfl | rfl <;> first | exact Nat.le_refl _ | exact Nat.le_add_right _ _
        exact I1.fpOk le (I1.hok.fresh le)
      exact ⟨_, _, _, _, H1, rfl, I2, turn_zipG (zip_sep2 lt1 lt2) A1 A2, ⟨⟨gz, gT, _, _, gO⟩, t1 h' g1, t2 h' g2⟩, new, q⟩⟩
end Tm
set_option Elab.async false
set_option linter.all false
set_option maxRecDepth 100000
set_option maxHeartbeats 2000000
namespace Tm
open PySem L2
open Evl (Ex ex_rd ex_l ex_t)
structure Walks (K : PySem.W.Frag) (Hk : Hp) (J : It) (items : List MV) : Prop where
  go : ∀ i H, Ex Hk H → i < items.length → J.go i H
  stop : ∀ H, Ex Hk H → J.stop items.length H
  yld : ∀ i H x H', Ex Hk H → i < items.length → J.yld i H x H' → ∃ y, items[i]? = some y ∧ ((H' = H ∧ RV K Hk y x) ∨ ∃ p vs ys, H p = none ∧ H' = upd H p (.tup vs) ∧ x = .ref p ∧ y = .tup ys ∧ RVs K Hk ys vs)
abbrev MI := Env → Res (List MV × Env)
def okI (c : Ct) (F Hk : Hp) (bp : List (Nat × Addr)) (σ : St) (R : It → Hp → Prop) : Res (List MV × Env) → Prop
  | .ok (xs, ρ') => ∀ Hk' H' J, Ex Hk Hk' → RS c.K F Hk' H' bp σ ρ' → Walks c.K Hk' J xs → R J H'
  | .exc e ρ' => Wish c F Hk bp σ e ρ'
  | .stuck => False
theorem okI.mono {c : Ct} {F Hk Hk' : Hp} {bp : List (Nat × Addr)} {σ : St} {Q : It → Hp → Prop} {r : Res (List MV × Env)} (x : Ex Hk Hk') (h : okI c F Hk bp σ Q r) : okI c F Hk' bp σ Q r := by
  cases r with
  | ok a => exact fun Hk2 H2 v x2 => h Hk2 H2 v (x.trans x2)
  | exc e ρ => exact Wish.mono x h
  | stuck => exact h
theorem postI {c : Ct} {F : Hp} {bp : List (Nat × Addr)} {σ : St} {R : It → Hp → Prop} : Post c F bp σ fun Hk r => okI c F Hk bp σ R r := ⟨fun _ _ _ h => h, fun _ h => h, fun _ _ _ x h => okI.mono x h⟩
def rdI (c : Ct) (m : MI) : TI := fun σ H R => ∃ F Hk bp ρ, At c F Hk H bp σ ρ ∧ okI c F Hk bp σ R (m ρ)
theorem PIw {X : Cx} {tg e : Expr} {t t' : TI} (h : PI X tg e t) (w : ∀ σ H R, t' σ H R → t σ H R) : PI X tg e t' := ⟨fun pins s σ H R I q => h.run pins s σ H R I (w σ H R q)⟩
theorem walks_l {K : PySem.W.Frag} {Hk : Hp} {a : Addr} {xs : List MV} {vs : List V} (h : SqL K Hk a vs) (r : RVs K Hk xs vs) : Walks K Hk (Itl K a) xs := by
  refine ⟨fun i H e hi => ?_, fun H e => ⟨vs, ex_l e h, by rw [r.length]; exact Nat.le_refl _⟩, fun i H x H' e hi y => ?_⟩
  · obtain ⟨v, hv, _⟩ := r.get (i := i) (x := xs[i]) (by simp [hi])
    exact ⟨vs, v, ex_l e h, hv⟩
  · obtain ⟨v, hv, rv⟩ := r.get (i := i) (x := xs[i]) (by simp [hi])
    obtain ⟨e1, y⟩ := y
    have := y vs (ex_l e h)
    rw [hv] at this
    cases this
    exact ⟨xs[i], by simp [hi], .inl ⟨e1, rv⟩⟩
theorem walks_t {K : PySem.W.Frag} {Hk : Hp} {a : Addr} {xs : List MV} {vs : List V} (h : SqT K Hk a vs) (r : RVs K Hk xs vs) : Walks K Hk (Itt K a) xs := by
  refine ⟨fun i H e hi => ?_, fun H e => ⟨vs, ex_t e h, by rw [r.length]; exact Nat.le_refl _⟩, fun i H x H' e hi y => ?_⟩
  · obtain ⟨v, hv, _⟩ := r.get (i := i) (x := xs[i]) (by simp [hi])
    exact ⟨vs, v, ex_t e h, hv⟩
  · obtain ⟨v, hv, rv⟩ := r.get (i := i) (x := xs[i]) (by simp [hi])
    obtain ⟨e1, y⟩ := y
    have := y vs (ex_t e h)
    rw [hv] at this
    cases this
    exact ⟨xs[i], by simp [hi], .inl ⟨e1, rv⟩⟩
def rngM (lo c : Int) (n : Nat) : List MV := (List.range n).map fun i => .int (lo + (i : Nat) * c)
theorem rngM_get {lo c : Int} {n i : Nat} (h : i < n) : (rngM lo c n)[i]? = some (.int (lo + (i : Nat) * c)) := by
  unfold rngM
  rw [List.getElem?_map, List.getElem?_range h]; rfl
theorem rngM_len {lo c : Int} {n : Nat} : (rngM lo c n).length = n := by simp [rngM]
theorem walks_r {K : PySem.W.Frag} {Hk : Hp} {lo : Int} {n : Nat} : Walks K Hk (Itr lo n) (rngM lo 1 n) := by
  refine ⟨fun i H e hi => by rw [rngM_len] at hi; exact hi, fun H e => by rw [rngM_len]; exact Nat.le_refl n, fun i H x H' e hi y => ?_⟩
  rw [rngM_len] at hi
  obtain ⟨e1, e2⟩ := y
  exact ⟨_, rngM_get hi, .inl ⟨e1, by rw [e2, Int.mul_one]; exact RV.int.mpr rfl⟩⟩
def signsM (z : Str) : List MV := z.cps.toList.map fun c => .str ⟨#[c]⟩
theorem walks_s {K : PySem.W.Frag} {Hk : Hp} {z : Str} : Walks K Hk (Its z) (signsM z) := by
  have l : (signsM z).length = z.cps.size := by simp [signsM]
  refine ⟨fun i H e hi => by rw [l] at hi; exact hi, fun H e => by rw [l]; exact Nat.le_refl _, fun i H x H' e hi y => ?_⟩
  obtain ⟨e1, ch, e2, e3⟩ := y
  refine ⟨.str ⟨#[ch]⟩, ?_, .inl ⟨e1, by rw [e3]; exact RV.str.mpr rfl⟩⟩
  unfold signsM
  rw [List.getElem?_map, Array.getElem?_toList, e2]; rfl
def zipM (xs ys : List MV) : List MV := List.zipWith (fun x y => .tup [x, y]) xs ys
theorem zipM_get {xs ys : List MV} {i : Nat} {x y : MV} (h1 : xs[i]? = some x) (h2 : ys[i]? = some y) : (zipM xs ys)[i]? = some (.tup [x, y]) := by
  unfold zipM
  rw [List.getElem?_zipWith, h1, h2]
theorem zipM_len {xs ys : List MV} : (zipM xs ys).length = min xs.length ys.length := by simp [zipM]
theorem rvs2 {K : PySem.W.Frag} {H : Hp} {x y : MV} {v w : V} (h : RV K H x v) (g : RV K H y w) : RVs K H [x, y] [v, w] := RVs.cons.mpr ⟨v, _, rfl, h, RVs.cons.mpr ⟨w, _, rfl, g, RVs.nil.mpr rfl⟩⟩
def ZVal (K : PySem.W.Frag) (Hk : Hp) (S : Hp → List V → Prop) (xs : List MV) : Prop := ∃ vs, (∀ H, Ex Hk H → S H vs) ∧ RVs K Hk xs vs
theorem walks_zg {K : PySem.W.Frag} {Hk : Hp} {S1 S2 : Hp → List V → Prop} {xs ys : List MV} (h1 : ZVal K Hk S1 xs) (h2 : ZVal K Hk S2 ys) : Walks K Hk (ItzG S1 S2) (zipM xs ys) := by
  obtain ⟨vs, g1, r1⟩ := h1
  obtain ⟨ws, g2, r2⟩ := h2
  refine ⟨fun i H e hi => ?_, fun H e => ⟨vs, ws, g1 H e, g2 H e, ?_⟩, fun i H x H' e hi y => ?_⟩
  · rw [zipM_len] at hi
    obtain ⟨v, hv, _⟩ := r1.get (i := i) (x := xs[i]) (by first | (simp; done) | (simp; omega))
    obtain ⟨u, hu, _⟩ := r2.get (i := i) (x := ys[i]) (by first | (simp; done) | (simp; omega))
    exact ⟨vs, ws, v, u, g1 H e, g2 H e, hv, hu⟩
  · rw [zipM_len, r1.length, r2.length]; omega
  · rw [zipM_len] at hi
    obtain ⟨v, hv, rv⟩ := r1.get (i := i) (x := xs[i]) (by first | (simp; done) | (simp; omega))
    obtain ⟨u, hu, ru⟩ := r2.get (i := i) (x := ys[i]) (by first | (simp; done) | (simp; omega))
    obtain ⟨p, x1, y1, e1, e2, e3, e4, e5⟩ := y
    have a1 := e4 vs (g1 H e)
    have a2 := e5 ws (g2 H e)
    rw [hv] at a1
    rw [hu] at a2
    cases a1
    cases a2
    exact ⟨_, zipM_get (x := xs[i]) (y := ys[i]) (by first | (simp; done) | (simp; omega)) (by first | (simp; done) | (simp; omega)), .inr ⟨p, _, _, e2, e3, e1, rfl, rvs2 rv ru⟩⟩
section
variable {X : Cx} {c : Ct} {tg : Expr}
def itemsOf : MV → Option (List MV)
  | .lst xs => some xs
  | .tup xs => some xs
  | .scr ns => some (ns.map .int)
  | .str z => some (signsM z)
  | _ => none
def mItV (a : ME) : MI := fun ρ => (a ρ).bind fun x ρ1 => match itemsOf x with | some xs => .ok (xs, ρ1) | none => .stuck
theorem mi_val {e : Expr} {a : ME} (h : PE X e (rdE c a)) (hK : c.K = X.K := by rfl) : PI X tg e (rdI c (mItV a)) := by
  refine ⟨fun pins s σ H R I q => ?_⟩
  obtain ⟨F, Hk, bp, ρ, S, q⟩ := q
  cases ea : a ρ with
  | stuck => unfold mItV at q; rw [ea] at q; exact q.elim
  | exc x ρ1 =>
    have z : rdE c a σ H fun _ _ => False := ⟨F, Hk, bp, ρ, S, by
      unfold mItV at q; rw [ea] at q ⊢; exact q⟩
    exact (pi_str h).run pins s σ H R I (rdw z fun _ _ f => f.elim)
  | ok p =>
    obtain ⟨x, ρ1⟩ := p
    have q' : okI c F Hk bp σ R (match itemsOf x with | some xs => .ok (xs, ρ1) | none => .stuck) := by unfold mItV at q; rw [ea] at q; exact q
    have ok : ∀ Q : VK, (∀ Hk' H' v, Ex Hk Hk' → RS c.K F Hk' H' bp σ ρ1 → RV c.K Hk' x v → Q v H') → rdE c a σ H Q := fun Q k => ⟨F, Hk, bp, ρ, S, by rw [ea]; exact k⟩
    cases x with
    | lst xs =>
      refine (pi_list h).run pins s σ H R I (ok _ fun Hk1 H1 v x1 S1 r1 => ?_)
      obtain ⟨p, vs, rfl, h1, s1⟩ := RV.lst.mp r1
      refine ⟨p, rfl, ⟨vs, SqL.of (S1.ex _ _ h1)⟩, ?_⟩
      rw [← hK]
      exact q' Hk1 H1 _ x1 S1 (walks_l (SqL.of h1) s1)
    | tup xs =>
      refine (pi_tup h).run pins s σ H R I (ok _ fun Hk1 H1 v x1 S1 r1 => ?_)
      obtain ⟨p, vs, rfl, h1, s1⟩ := RV.tup.mp r1
      refine ⟨p, rfl, ⟨vs, by rw [← hK]; exact ex_t S1.ex h1⟩, ?_⟩
      rw [← hK]
      exact q' Hk1 H1 _ x1 S1 (walks_t h1 s1)
    | scr ns =>
      refine (pi_list h).run pins s σ H R I (ok _ fun Hk1 H1 v x1 S1 r1 => ?_)
      obtain ⟨p, rfl, h1⟩ := RV.scr.mp r1
      refine ⟨p, rfl, ⟨_, by rw [← hK]; exact ex_l S1.ex h1⟩, ?_⟩
      rw [← hK]
      exact q' Hk1 H1 _ x1 S1 (walks_l h1 (RVs.ints.mpr rfl))
    | str z =>
      refine (pi_str h).run pins s σ H R I (ok _ fun Hk1 H1 v x1 S1 r1 => ?_)
      exact ⟨z, RV.str.mp r1, q' Hk1 H1 _ x1 S1 walks_s⟩
    | _ => exact q'.elim
def inR (i : Int) : Bool := decide (-(2 ^ 62) ≤ i) && decide (i < 2 ^ 62)
theorem inR_iff {i : Int} : inR i = true ↔ -(2 ^ 62) ≤ i ∧ i < 2 ^ 62 := by unfold inR; simp
def mR1 (a : MA) : MI := fun ρ => (a ρ).bind fun xs ρ1 => match xs with
  | [.int j] => if inR j then .ok (rngM 0 1 j.toNat, ρ1) else .stuck
  | _ => .stuck
theorem rvs_int1 {K : PySem.W.Frag} {H : Hp} {i : Int} {vs : List V} (r : RVs K H [.int i] vs) : vs = [.int i] := (RVs.ints (ns := [i])).mp r
theorem rvs_int2 {K : PySem.W.Frag} {H : Hp} {i j : Int} {vs : List V} (r : RVs K H [.int i, .int j] vs) : vs = [.int i, .int j] := (RVs.ints (ns := [i, j])).mp r
theorem mi_r1 {a : Expr} {m : MA} {p pos : Pos} (hm : X.mg "range" = none) (ha : PA X [a] (rdA c m)) (hg : Gl X "range" := by rfl) (hs : starEach [a] X.env = [(false, eval a X.env)] := by rfl) : PI X tg (.Call (.Name "range" p) [a] [] pos) (rdI c (mR1 m)) :=
  PIw (pi_range1 hg hm ha hs) fun σ H R ⟨F, Hk, bp, ρ, S, h⟩ => rdAw (bA postI S h) fun vs H1 ⟨Hk1, xs, ρ1, x1, S1, r1, h1⟩ => by
    split at h1
    · rename_i j
      split at h1
      · rename_i hj
        have := inR_iff.mp hj
        exact ⟨j, rvs_int1 r1, this.1, this.2, h1 _ _ _ (Ex.refl _) S1.1 walks_r⟩
      · exact h1.elim
    · exact h1.elim
def zitM : MV → Option (List MV)
  | .lst xs => some xs
  | .tup xs => some xs
  | .str z => some (signsM z)
  | _ => none
theorem rv_signs {K : PySem.W.Frag} {Hk : Hp} (z : Str) : RVs K Hk (signsM z) (signsV z) := by
  unfold signsM signsV
  generalize z.cps.toList = l
  induction l with
  | nil => exact RVs.nil.mpr rfl
  | cons c l ih => exact RVs.cons.mpr ⟨_, _, rfl, RV.str.mpr rfl, ih⟩
theorem zit_arg {K : PySem.W.Frag} {Hk H : Hp} {x : MV} {v : V} {xs : List MV} (e : Ex Hk H) (r : RV K Hk x v) (h : zitM x = some xs) : ∃ S, ZArg K H v S ∧ ZVal K Hk S xs := by
  cases x with
  | lst ys =>
    cases h
    obtain ⟨p, vs, rfl, g, s⟩ := RV.lst.mp r
    exact ⟨_, .inl ⟨p, vs, rfl, SqL.of (e _ _ g), rfl⟩, vs, fun H' e' => ex_l e' (SqL.of g), s⟩
  | tup ys =>
    cases h
    obtain ⟨p, vs, rfl, g, s⟩ := RV.tup.mp r
    exact ⟨_, .inr (.inl ⟨p, vs, rfl, ex_t e g, rfl⟩), vs, fun H' e' => ex_t e' g, s⟩
  | str z =>
    cases h
    rw [RV.str.mp r]
    exact ⟨_, .inr (.inr ⟨z, rfl, rfl⟩), signsV z, fun _ _ => rfl, rv_signs z⟩
  | _ => cases h
def mZip (a : MA) : MI := fun ρ => (a ρ).bind fun xs ρ1 => match xs with
  | [x, y] => (match zitM x, zitM y with | some xs, some ys => .ok (zipM xs ys, ρ1) | _, _ => .stuck)
  | _ => .stuck
theorem mi_zip {e e2 : Expr} {m : MA} {p pos tpos : Pos} {elts : List Expr} {kk : Nat} (hm : X.mg "zip" = none) (ha : PA X [e, e2] (rdA c m)) (hg : Gl X "zip" := by rfl) (hK : c.K = X.K := by rfl)
    (hs : starEach [e, e2] X.env = (false, eval e X.env) :: starEach [e2] X.env := by rfl) (hpl : (backTo pos (starEach [e2] X.env)).any (·.1) = false := by rfl) : PI X (.Tuple elts kk tpos) (.Call (.Name "zip" p) [e, e2] [] pos) (rdI c (mZip m)) :=
  PIw (pi_zipG hg hm ha hs hpl) fun σ H R ⟨F, Hk, bp, ρ, S, h⟩ => rdAw (bA postI S h) fun vs H1 ⟨Hk1, xs, ρ1, x1, S1, r1, h1⟩ => by
    split at h1
    · split at h1
      · rename_i z1 z2
        obtain ⟨v, r, rfl, q1, q2⟩ := RVs.cons.mp r1
        obtain ⟨w, r', rfl, q3, q4⟩ := RVs.cons.mp q2
        rw [RVs.nil.mp q4]
        obtain ⟨T1, y1, y2⟩ := zit_arg S1.1.ex q1 z1
        obtain ⟨T2, y3, y4⟩ := zit_arg S1.1.ex q3 z2
        refine ⟨v, w, T1, T2, rfl, hK ▸ y1, hK ▸ y3, ?_⟩
        exact h1 _ _ _ (Ex.refl _) S1.1 (walks_zg y2 y4)
      · exact h1.elim
    · exact h1.elim
def mLoop (g : MG) (b : MS) : List MV → Env → Res (Fl × Env)
  | [], ρ => .ok (.nx, ρ)
  | x :: xs, ρ => match g x ρ with
    | none => .stuck
    | some ρ1 => (b ρ1).bind fun f ρ2 => match f with
      | .nx => mLoop g b xs ρ2
      | .ct => mLoop g b xs ρ2
      | .br => .ok (.nx, ρ2)
      | .rt v => .ok (.rt v, ρ2)
def mFor (i : MI) (g : MG) (b : MS) : MS := fun ρ => (i ρ).bind fun xs ρ1 => mLoop g b xs ρ1
theorem okS.loop {F Hk : Hp} {bp : List (Nat × Addr)} {D : Ends} {g : MG} {b : MS} {xs : List MV} {N : St → Hp → Prop} (hN : ∀ Hk' H' σ' ρ', Ex Hk Hk' → RS c.K F Hk' H' bp σ' ρ' → okS c F Hk' bp D (mLoop g b xs ρ') → N σ' H') {r : Res (Fl × Env)}
    (h : okS c F Hk bp D (r.bind fun f ρ2 => match f with | .nx => mLoop g b xs ρ2 | .ct => mLoop g b xs ρ2 | .br => .ok (.nx, ρ2) | .rt v => .ok (.rt v, ρ2))) : okS c F Hk bp { D with nx := N, ct := N, bk := D.nx } r := by
  cases r with
  | stuck => exact h
  | exc e ρ => exact h
  | ok q =>
    obtain ⟨f, ρ1⟩ := q
    cases f with
    | nx => exact fun Hk1 H1 σ1 x1 S1 => hN Hk1 H1 σ1 ρ1 x1 S1 (okS.mono x1 h)
    | ct => exact fun Hk1 H1 σ1 x1 S1 => hN Hk1 H1 σ1 ρ1 x1 S1 (okS.mono x1 h)
    | br => exact h
    | rt x => exact h
theorem rd_for {it : MI} {g : MG} {b : MS} {D : Ends} {σ : St} {H : Hp} (h : rdS c (mFor it g b) D σ H) : tFor (rdI c it) (rdG c g) (rdS c b) D σ H := by
  obtain ⟨F, Hk, bp, ρ, S, h⟩ := h
  refine ⟨F, Hk, bp, ρ, S, ?_⟩
  have h : okS c F Hk bp D ((it ρ).bind fun xs ρ1 => mLoop g b xs ρ1) := h
  cases e : it ρ with
  | stuck => rw [e] at h; exact h
  | exc x ρ' => rw [e] at h; exact fun Hk1 H1 cls d => h Hk1 H1 σ cls d
  | ok p =>
    obtain ⟨xs, ρ1⟩ := p
    rw [e] at h
    intro Hk1 H1 J x1 S1 wk
    have h : okS c F Hk1 bp D (mLoop g b xs ρ1) := okS.mono x1 h
    refine ⟨fun i m σ' H' => m = xs.length - i ∧ i ≤ xs.length ∧ ∃ Hk' ρ', Ex Hk1 Hk' ∧ At c F Hk' H' bp σ' ρ' ∧ okS c F Hk' bp D (mLoop g b (xs.drop i) ρ'), ⟨xs.length, by simp, Nat.zero_le _, Hk1, ρ1, Ex.refl _, ⟨S1, S.2⟩, h⟩, ?_⟩
    rintro i m σ' H' ⟨rfl, hi, Hk', ρ', x', S', h'⟩
    by_cases hlt : i < xs.length
    · refine .inr ⟨wk.go i H' (x'.trans S'.1.ex) hlt, fun σ2 H2 => ∃ Hk2 ρ2, Ex Hk1 Hk2 ∧ At c F Hk2 H2 bp σ2 ρ2 ∧ okS c F Hk2 bp D (mLoop g b (xs.drop (i + 1)) ρ2), fun σ2 H2 ⟨Hk2, ρ2, x2, S2, h2⟩ => ⟨xs.length - (i + 1), by omega, rfl, hlt, Hk2, ρ2, x2, S2, h2⟩, fun x H2 y => ?_⟩
      obtain ⟨z, ez, hz⟩ := wk.yld i H' x H2 (x'.trans S'.1.ex) hlt y
      have ed : xs.drop i = z :: xs.drop (i + 1) := by
        rw [List.drop_eq_getElem_cons hlt]
        rw [List.getElem?_eq_getElem hlt] at ez
        cases ez; rfl
      rw [ed] at h'
      have fin : ∀ Hk3, Ex Hk' Hk3 → At c F Hk3 H2 bp σ' ρ' → RV c.K Hk3 z x → rdG c g x σ' H2 fun σ2 H2 => rdS c b { D with nx := fun σ2 H2 => ∃ Hk2 ρ2, Ex Hk1 Hk2 ∧ At c F Hk2 H2 bp σ2 ρ2 ∧ okS c F Hk2 bp D (mLoop g b (xs.drop (i + 1)) ρ2), ct := fun σ2 H2 => ∃ Hk2 ρ2, Ex Hk1 Hk2 ∧ At c F Hk2 H2 bp σ2 ρ2 ∧ okS c F Hk2 bp D (mLoop g b (xs.drop (i + 1)) ρ2), bk := D.nx } σ2 H2 := fun Hk3 x3 S3 r3 => by
        refine ⟨F, Hk3, bp, ρ', z, S3, r3, ?_⟩
        have h' := okS.mono x3 h'
        unfold mLoop at h'
        cases eg : g z ρ' with
        | none => rw [eg] at h'; exact h'
        | some ρ3 =>
          rw [eg] at h'
          intro Hk4 H4 σ4 x4 S4
          refine ⟨F, Hk4, bp, ρ3, ⟨S4, S.2⟩, okS.loop (fun Hk5 H5 σ5 ρ5 x5 S5 h5 => ⟨Hk5, ρ5, x'.trans (x3.trans (x4.trans x5)), ⟨S5, S.2⟩, h5⟩) (okS.mono x4 h')⟩
      rcases hz with ⟨rfl, r⟩ | ⟨p, vs, ys, hp, rfl, rfl, rfl, r⟩
      · exact fin Hk' (Ex.refl _) S' (RV.mono x' _ _ r)
      · have xn := Ex.new (o := .tup vs) (S'.1.ex.back hp)
        exact fin _ xn ⟨S'.1.new hp, S.2⟩ (RV.tup.mpr ⟨p, vs, rfl, SqT.of upd_same, r.mono (x'.trans xn)⟩)
    · have e : i = xs.length := by omega
      subst e
      rw [List.drop_length] at h'
      exact .inl ⟨wk.stop H' (x'.trans S'.1.ex), h' _ _ _ (Ex.refl _) S'.1⟩
theorem ms_for {iter : Expr} {body : List Stmt} {it : MI} {g : MG} {b : MS} {pos : Pos} (hp : PassesOwn (model X.prog X.w) X.A X.env X.xe) (hc : X.calm = true) (hi : PI X tg iter (rdI c it)) (hg : PG X tg (rdG c g)) (hb : PSs X body (rdS c b))
    (hs : ∀ x, foldedSetIterable iter X.env x = pure x := by intro _; rfl) : PS X (.For tg iter body [] pos) (rdS c (mFor it g b)) := PSw (ps_for hp hc hi hg hb hs) fun _ _ _ h => rd_for h
end
end Tm
set_option Elab.async false
set_option linter.all false
set_option maxRecDepth 100000
set_option maxHeartbeats 2000000
namespace Tm
open PySem L2
open Evl (Ex ex_rd ex_l ex_t)
theorem okXN {P : Program} {w : World} {K : PySem.W.Frag} {mg : Str → Option Value} {base : Heap} {x qual : Str} {st : Stmt} {f : Addr} {fd : FuncData} {N ps : List Str} {k : Nat} {sp : Sp} (F : Fun K x qual st f fd) (S : FnScope N ps (defScope st)) (hl : ∀ vs H Q E, sp vs H Q E → vs.length = ps.length)
    (b : ∀ (cdv : Value) (A : Around) (outer : List PySem.Env) (s : Shared) (H : Hp) (vs : List V) (Q : VK) (E : XK), Room k (A.deeper (PyProof.Rows.envOfC qual (defScope st) s.heap.objs.size f cdv)) → sp vs H Q E →
      ∃ t, PSs (cxOf (L2N.CX P w) P w K mg base N qual (defScope st) f cdv A outer s H E) (defBody st) t ∧ t { nx := fun _ H' => Q .non H', rt := Q } (L2.start N vs) H) : FnOk P w K mg base (L2N.CX P w) (k + 1) f fd ps sp := by
  obtain ⟨_, _, _, _, _, _, cv, _, _, rfl, e, hc⟩ := F.ex
  exact fn_of e hc S hl fun A outer s H vs Q E hr h => b cv A outer s H vs Q E hr h
abbrev MF := List MV → Res (MV × Env)
def endOf (bs : List Nat) (ρ : Env) : Env := bs.map fun i => (ρ[i]?).join
def mFn (n : Nat) (bs : List Nat) (m : MS) : MF := fun xs => match m (xs.map some ++ List.replicate (n - xs.length) none) with
  | .ok (.rt v, ρ) => .ok (v, endOf bs ρ)
  | .ok (.nx, ρ) => .ok (.non, endOf bs ρ)
  | .exc e ρ => .exc e (endOf bs ρ)
  | _ => .stuck
def okF (K : PySem.W.Frag) (mg : Str → Option Value) (F Hk : Hp) (bσ : St) (Q : VK) (E : XK) : Res (MV × Env) → Prop
  | .ok (v, bs) => ∀ Hk' H' w, Ex Hk Hk' → RS K F Hk' H' [] (bσ ++ [some w]) (bs ++ [some v]) → Q w H'
  | .exc e bs => ∀ Hk' H' cls d, Ex Hk Hk' → RS K F Hk' H' [] bσ bs → ExR K mg Hk' e cls d → E cls d H'
  | .stuck => False
def spF (K : PySem.W.Frag) (mg : Str → Option Value) (np : Nat) (bs : List Nat) (f : MF) : Sp := fun vs H Q E => vs.length = np ∧ ∃ F Hk bp xs, RS K F Hk H bp (vs.map some) (xs.map some) ∧ bp.map (·.1) = bs ∧ okF K mg F Hk (bp.map fun q => some (.ref q.2)) Q E (f xs)
section
variable {K : PySem.W.Frag} {F Hk H : Hp} {bp : List (Nat × Addr)} {σ : St} {ρ : Env}
theorem RS.pick (S : RS K F Hk H bp (σ ++ [some v]) (ρ ++ [some x])) (is : List Nat) (nd : is.Nodup) (hl : ∀ i ∈ is, i < ρ.length) :
    RS K F Hk H [] ((is.map fun i => (σ[i]?).join) ++ [some v]) ((is.map fun i => (ρ[i]?).join) ++ [some x]) := by
  obtain ⟨ow, s⟩ := S.ow
  have hlen : σ.length = ρ.length := by have := S.len; simpa using this
  have old : ∀ {j i : Nat}, is[j]? = some i → i < ρ.length := fun h => hl _ (List.mem_of_getElem? h)
  refine ⟨by simp, S.ex, S.fr, S.frk, ⟨fun j => match is[j]? with | some i => ow i | none => if j = is.length then ow ρ.length else [], ?_⟩, fun q hq => nomatch hq⟩
  have own : ∀ j a, a ∈ (match is[j]? with | some i => ow i | none => if j = is.length then ow ρ.length else []) → (∃ i, is[j]? = some i ∧ a ∈ ow i) ∨ (j = is.length ∧ a ∈ ow ρ.length) := fun j a h => by
    cases e : is[j]? with
    | some i => rw [e] at h; exact .inl ⟨i, rfl, h⟩
    | none =>
      rw [e] at h
      by_cases e2 : j = is.length
      · rw [if_pos e2] at h; exact .inr ⟨e2, h⟩
      · rw [if_neg e2] at h; cases h
  refine ⟨fun j y h => ?_, fun j a h => ?_, fun j h => ?_, fun j k a hjk h1 h2 => ?_⟩
  · rcases app_get h with ⟨e1, e2⟩ | ⟨lt, e2⟩
    · cases e2
      rw [List.length_map] at e1
      subst e1
      obtain ⟨u, hu, ou⟩ := s.s ρ.length x (by simp)
      have ev : u = v := by rw [← hlen] at hu; simpa using hu.symm
      subst ev
      refine ⟨u, by simp, ?_⟩
      have : is[is.length]? = none := by simp
      rw [this, if_pos rfl]
      exact ou
    · rw [List.length_map] at lt
      rw [List.getElem?_map] at e2
      cases ei : is[j]? with
      | none => rw [ei] at e2; cases e2
      | some i =>
        rw [ei] at e2
        have e3 : ρ[i]? = some (some y) := by
          cases er : ρ[i]? with
          | none => rw [Option.map_some, er] at e2; cases e2
          | some o => rw [Option.map_some, er] at e2; cases o with
            | none => cases e2
            | some z => cases e2; rfl
        have li := old ei
        obtain ⟨w, w1, w2⟩ := s.s i y (by rw [List.getElem?_append_left li]; exact e3)
        rw [List.getElem?_append_left (by rw [hlen]; exact li)] at w1
        refine ⟨w, ?_, w2⟩
        rw [List.getElem?_append_left (by simpa using lt), List.getElem?_map, ei, Option.map_some, w1]; rfl
  · rcases own j a h with ⟨i, _, m⟩ | ⟨_, m⟩
    · exact s.f i a m
    · exact s.f _ a m
  · cases e : (match is[j]? with | some i => ow i | none => if j = is.length then ow ρ.length else []) with
    | nil => exact (h e).elim
    | cons a r =>
      rcases own j a (by rw [e]; simp) with ⟨i, ei, _⟩ | ⟨e2, _⟩
      · have := lt_get ei; simp; omega
      · simp; omega
  · rcases own j a h1 with ⟨i, ei, m⟩ | ⟨e1, m⟩ <;> rcases own k a h2 with ⟨i2, ei2, m2⟩ | ⟨e2, m2⟩
    · have ne : i ≠ i2 := fun z => by
        subst z
        obtain ⟨a1, a2⟩ := List.getElem?_eq_some_iff.mp ei
        obtain ⟨b1, b2⟩ := List.getElem?_eq_some_iff.mp ei2
        exact hjk ((List.getElem_inj nd).mp (a2.trans b2.symm))
      exact s.d i i2 a ne m m2
    · exact s.d i ρ.length a (Nat.ne_of_lt (old ei)) m m2
    · exact s.d i2 ρ.length a (Nat.ne_of_lt (old ei2)) m2 m
    · exact hjk (e1.trans e2.symm)
theorem RS.pad (S : RS K F Hk H bp σ ρ) (n : Nat) : RS K F Hk H bp (σ ++ List.replicate n none) (ρ ++ List.replicate n none) := by
  obtain ⟨ow, s⟩ := S.ow
  have g : ∀ {α : Type} {l : List (Option α)} {j : Nat} {y : α}, (l ++ List.replicate n none)[j]? = some (some y) → l[j]? = some (some y) := fun {α l j y} h => by
    by_cases e : j < l.length
    · rw [List.getElem?_append_left e] at h; exact h
    · rw [List.getElem?_append_right (Nat.le_of_not_lt e), List.getElem?_replicate] at h
      split at h <;> cases h
  have g2 : ∀ {α : Type} {l : List (Option α)} {j : Nat} {y : α}, l[j]? = some (some y) → (l ++ List.replicate n none)[j]? = some (some y) := fun {α l j y} h => by
    rw [List.getElem?_append_left (lt_get h)]; exact h
  refine ⟨by simp [S.len], S.ex, S.fr, S.frk, ⟨ow, fun j y h => ?_, s.f, fun j h => ?_, s.d⟩, fun q hq => g2 (S.bor q hq)⟩
  · obtain ⟨v, e, o⟩ := s.s j y (g h)
    exact ⟨v, g2 e, o⟩
  · have := s.w j h; simp; omega
theorem RS.args {xs : List MV} {vs : List V} (ex : Ex Hk H) (fr : Ex F H) (frk : ∀ a o, F a = some o → Hk a = none) (r : RVs K Hk xs vs) : RS K F Hk H [] (vs.map some) (xs.map some) := by
  refine ⟨by simp [r.length], ex, fr, frk, ⟨fun _ => [], fun j y h => ?_, fun j a h => (nomatch h), fun j h => (h rfl).elim, fun j k a _ h => nomatch h⟩, fun q hq => nomatch hq⟩
  rw [List.getElem?_map] at h
  cases e : xs[j]? with
  | none => rw [e] at h; cases h
  | some z =>
    rw [e] at h
    cases h
    obtain ⟨v, e1, rv⟩ := r.get e
    exact ⟨v, by rw [List.getElem?_map, e1]; rfl, rv.ov⟩
end
section
variable {X : Cx} {c : Ct}
def fz : MV → Option MV
  | .own xs => some (.lst xs)
  | .obj _ _ => none
  | .dow _ _ => none
  | .dot _ _ => none
  | x => some x
def mFz (m : ME) : ME := fun ρ => (m ρ).bind fun x ρ1 => match fz x with | some y => .ok (y, ρ1) | none => .stuck
theorem RS.last {K : PySem.W.Frag} {F Hk H : Hp} {bp : List (Nat × Addr)} {σ : St} {ρ : Env} {v : V} {x y : MV} (S : RS K F Hk H bp (σ ++ [some v]) (ρ ++ [some x])) (hb : ∀ q ∈ bp, q.1 < ρ.length) (e : fz x = some y) :
    ∃ Hk', Ex Hk Hk' ∧ RS K F Hk' H bp σ ρ ∧ RV K Hk' y v := by
  have hl : σ.length = ρ.length := by have := S.len; simpa using this
  have pl : x.per = true → y = x → ∃ Hk', Ex Hk Hk' ∧ RS K F Hk' H bp σ ρ ∧ RV K Hk' y v := fun px ey => by
    subst ey
    obtain ⟨w, ew, rw'⟩ := S.get (i := ρ.length) (x := y) (by simp) px
    rw [← hl] at ew
    have : w = v := by simpa using ew.symm
    subst this
    exact ⟨Hk, Ex.refl _, S.drop hb, rw'⟩
  cases x with
  | own xs =>
    cases e
    obtain ⟨p, vs, e1, ex, r, S'⟩ := S.freeze (i := ρ.length) (xs := xs) (by simp)
    rw [← hl] at e1
    have : v = .ref p := by simpa using e1
    subst this
    refine ⟨_, ex, ?_, r⟩
    have z : (ρ ++ [some (MV.own xs)]).set ρ.length (some (.lst xs)) = ρ ++ [some (.lst xs)] := by simp
    rw [z] at S'
    exact S'.drop hb
  | obj C fs => cases e
  | dow _ _ => cases e
  | dot _ _ => cases e
  | _ => cases e; exact pl rfl rfl
theorem rd_fz {m : ME} {σ : St} {H : Hp} {Q : VK} (h : rdE c (mFz m) σ H Q) : rdO c m σ H Q := by
  obtain ⟨F, Hk, bp, ρ, S, h⟩ := h
  refine ⟨F, Hk, bp, ρ, S, ?_⟩
  have h : okE c F Hk bp σ Q ((m ρ).bind fun x ρ1 => match fz x with | some y => .ok (y, ρ1) | none => .stuck) := h
  cases e : m ρ with
  | stuck => rw [e] at h; exact h
  | exc x ρ' => rw [e] at h; exact h
  | ok p =>
    obtain ⟨x, ρ1⟩ := p
    rw [e] at h
    intro Hk1 H1 v x1 S1
    have h : okE c F Hk bp σ Q (match fz x with | some y => .ok (y, ρ1) | none => .stuck) := h
    have l1 : σ.length = ρ1.length := by have := S1.len; simpa using this
    cases ez : fz x with
    | none => rw [ez] at h; exact h.elim
    | some y =>
      rw [ez] at h
      obtain ⟨Hk2, x2, S2, r2⟩ := S1.last (fun q hq => by rw [← l1]; exact lt_get (S.1.bor q hq)) ez
      exact h _ _ _ (x1.trans x2) S2 r2
theorem me_fz {e : Expr} {m : ME} (h : PE X e (rdO c m)) : PE X e (rdE c (mFz m)) := PEw h fun _ _ _ q => rd_fz q
def mCall (f : MF) (a : MA) : ME := fun ρ => (a ρ).bind fun xs ρ1 => match f xs with
  | .ok (v, _) => .ok (v, ρ1)
  | .exc e _ => .exc e ρ1
  | .stuck => .stuck
theorem call_end {f : MF} {n : Nat} {F Hk H : Hp} {bp : List (Nat × Addr)} {σ : St} {ρ : Env} {xs : List MV} {vs : List V} {Q : VK} {E : XK} (S : At c F Hk H bp σ ρ) (r : RVs c.K Hk xs vs) (hn : xs.length = n)
    (hE : ∀ e, (∀ Hk' H' cls d, Ex Hk Hk' → RS c.K F Hk' H' bp σ ρ → ExR c.K c.mg Hk' e cls d → c.W cls d σ H') → ∀ Hk' H' cls d, Ex Hk Hk' → RS c.K F Hk' H' bp σ ρ → ExR c.K c.mg Hk' e cls d → E cls d H')
    (h : okO c F Hk bp σ Q (match f xs with | .ok (v, _) => .ok (v, ρ) | .exc e _ => .exc e ρ | .stuck => .stuck)) : spF c.K c.mg n [] f vs H Q E := by
  refine ⟨by rw [r.length]; exact hn, ?_⟩
  obtain ⟨ow, s⟩ := S.1.ow
  haveI : ∀ a, Decidable (∃ i, a ∈ ow i) := fun a => Classical.propDecidable _
  have fN : ∃ F' : Hp, (∀ i a, a ∈ ow i → F' a = H a) ∧ (∀ a o, F a = some o → F' a = some o) ∧ ∀ a o, F' a = some o → H a = some o ∧ Hk a = none := by
    refine ⟨fun a => if (∃ i, a ∈ ow i) then H a else F a, fun i a ha => if_pos ⟨i, ha⟩, fun a o ha => ?_, fun a o ha => ?_⟩
    · have : ¬ ∃ i, a ∈ ow i := fun ⟨i, hi⟩ => by have := (s.f i a hi).2.1; rw [ha] at this; cases this
      show (if (∃ i, a ∈ ow i) then H a else F a) = some o
      rw [if_neg this]; exact ha
    · have ha : (if (∃ i, a ∈ ow i) then H a else F a) = some o := ha
      by_cases e : ∃ i, a ∈ ow i
      · rw [if_pos e] at ha
        obtain ⟨i, hi⟩ := e
        exact ⟨ha, (s.f i a hi).1⟩
      · rw [if_neg e] at ha
        exact ⟨S.1.fr a o ha, S.1.frk a o ha⟩
  obtain ⟨F', f1, f2, f3⟩ := fN
  refine ⟨F', Hk, [], xs, RS.args S.1.ex (fun a o ha => (f3 a o ha).1) (fun a o ha => (f3 a o ha).2) r, rfl, ?_⟩
  -- what stands behind the call
  have back : ∀ {Hk' H' : Hp} {bσ : St} {bρ : Env}, Ex Hk Hk' → RS c.K F' Hk' H' [] bσ bρ → RS c.K F Hk' H' bp σ ρ ∧ SL c.K F Hk' H' ow σ ρ := fun {Hk' H' bσ bρ} x S' => by
    have own : ∀ i, ∀ a ∈ ow i, H' a = H a ∧ Hk' a = none := fun i a ha => by
      obtain ⟨g1, g2, o, g3⟩ := s.f i a ha
      have q : F' a = some o := (f1 i a ha).trans g3
      exact ⟨(S'.fr a o q).trans g3.symm, S'.frk a o q⟩
    have sl : SL c.K F Hk' H' ow σ ρ := s.step x own
    exact ⟨⟨S.1.len, S'.ex, fun a o ha => S'.fr a o (f2 a o ha), fun a o ha => S'.frk a o (f2 a o ha), ⟨ow, sl⟩, S.1.bor⟩, sl⟩
  cases ef : f xs with
  | stuck => rw [ef] at h; exact h.elim
  | exc e bs =>
    rw [ef] at h
    intro Hk' H' cls d x S' er
    exact hE e h Hk' H' cls d x (back x S').1 er
  | ok p =>
    obtain ⟨v, bs⟩ := p
    rw [ef] at h
    intro Hk' H' w x S'
    obtain ⟨R1, sl⟩ := back x S'
    refine h Hk' H' w x ?_
    obtain ⟨ow2, s2⟩ := S'.ow
    have bl : bs.length = 0 := by have := S'.len; simpa using this.symm
    have be : bs = [] := List.eq_nil_of_length_eq_zero bl
    subst be
    obtain ⟨w2, e2, o2⟩ := s2.s 0 v rfl
    cases e2
    refine ⟨by simp [S.1.len], R1.ex, R1.fr, R1.frk, ⟨_, sl.push S.1.len o2 (fun a ha => ?_) (fun i a ha hi => ?_)⟩, R1.bor_app _⟩
    · obtain ⟨g1, g2, _⟩ := s2.f 0 a ha
      refine ⟨g1, ?_⟩
      cases e : F a with
      | none => rfl
      | some o => rw [f2 a o e] at g2; cases g2
    · obtain ⟨g1, g2, o, g3⟩ := s2.f 0 a ha
      obtain ⟨_, _, o', q⟩ := s.f i a hi
      rw [f1 i a hi, q] at g2
      cases g2
theorem rd_call {f : MF} {n : Nat} {a : MA} {σ : St} {H : Hp} {Q : VK} (hn : ∀ ρ xs ρ', a ρ = .ok (xs, ρ') → xs.length = n) (h : rdO c (mCall f a) σ H Q) : tCallS (spF c.K c.mg n [] f) (WE c.W) (rdA c a) σ H Q := by
  obtain ⟨F, Hk, bp, ρ, S, h⟩ := h
  refine ⟨F, Hk, bp, ρ, S, ?_⟩
  have h : okO c F Hk bp σ Q ((a ρ).bind fun xs ρ1 => match f xs with | .ok (v, _) => .ok (v, ρ1) | .exc e _ => .exc e ρ1 | .stuck => .stuck) := h
  cases e : a ρ with
  | stuck => rw [e] at h; exact h
  | exc x ρ' => rw [e] at h; exact h
  | ok p =>
    obtain ⟨xs, ρ1⟩ := p
    rw [e] at h
    intro Hk1 H1 vs x1 S1 r1
    exact call_end ⟨S1, S.2⟩ r1 (hn _ _ _ e) (fun e q => q) (okO.mono x1 h)
def Lng (a : MA) (n : Nat) : Prop := ∀ ρ xs ρ', a ρ = .ok (xs, ρ') → xs.length = n
theorem lng_nil : Lng mNil 0 := fun ρ xs ρ' h => by cases h; rfl
theorem lng_cons {a : ME} {b : MA} {n : Nat} (h : Lng b n) : Lng (mCons a b) (n + 1) := fun ρ xs ρ' e => by
  unfold mCons at e
  cases ea : a ρ with
  | stuck => rw [ea] at e; cases e
  | exc x r => rw [ea] at e; cases e
  | ok p =>
    rw [ea] at e
    have e : (b p.2).bind (fun ys ρ2 => Res.ok (p.1 :: ys, ρ2)) = .ok (xs, ρ') := e
    cases eb : b p.2 with
    | stuck => rw [eb] at e; cases e
    | exc x r => rw [eb] at e; cases e
    | ok q =>
      rw [eb] at e
      cases e
      simp [h _ _ _ eb]
variable {k : Nat} {fa : Addr} {fd : FuncData} {ps : List Str} {x : Str} {p pos : Pos} {e : Expr} {es : List Expr} {f : MF} {a : MA} {n : Nat}
theorem mo_call (F : FnOk X.prog X.w X.K X.mg X.base (L2N.CX X.prog X.w) k fa fd ps (spF X.K X.mg n [] f)) (hr : Room k X.A) (hm : X.mg x = some (.ref fa)) (hk : PySem.W.keepIn X.K (.ref fa) = true) (hb : Binds X.K fd ps []) (tk : L2N.Takes X c.W)
    (ha : PA X (e :: es) (rdA c a)) (hn : Lng a n) (hg : Gl X x := by rfl) (hK : c.K = X.K := by rfl) (hM : c.mg = X.mg := by rfl) (hdb : (x == ("__debug__" : Str)) = false := by decide) (he : starEach (e :: es) X.env = (false, eval e X.env) :: starEach es X.env := by rfl)
    (hpl : (backTo pos (starEach es X.env)).any (·.1) = false := by rfl) : PE X (.Call (.Name x p) (e :: es) [] pos) (rdO c (mCall f a)) :=
  PEw (pe_callS (E := WE c.W) F hr hg hm hk hb (fun σ => L2N.passAt tk σ) ha hdb he hpl) fun σ H Q h => by
    have := rd_call hn h
    rw [hK, hM] at this
    exact this
def mCall0 (f : MF) (a : MA) : ME := fun ρ => (a ρ).bind fun xs ρ1 => match f xs with
  | .ok (v, _) => .ok (v, ρ1)
  | _ => .stuck
theorem rd_call0 {f : MF} {n : Nat} {a : MA} {σ : St} {H : Hp} {Q : VK} (hn : Lng a n) (h : rdO c (mCall0 f a) σ H Q) : tCall (spF c.K c.mg n [] f) [] (fun _ _ _ => False) (rdA c a) σ H Q := by
  obtain ⟨F, Hk, bp, ρ, S, h⟩ := h
  refine ⟨F, Hk, bp, ρ, S, ?_⟩
  have h : okO c F Hk bp σ Q ((a ρ).bind fun xs ρ1 => match f xs with | .ok (v, _) => .ok (v, ρ1) | _ => .stuck) := h
  cases e : a ρ with
  | stuck => rw [e] at h; exact h
  | exc x ρ' => rw [e] at h; exact h
  | ok p =>
    obtain ⟨xs, ρ1⟩ := p
    rw [e] at h
    intro Hk1 H1 vs x1 S1 r1
    rw [List.append_nil]
    have h : okO c F Hk bp σ Q (match f xs with | .ok (v, _) => .ok (v, ρ1) | _ => .stuck) := h
    cases ef : f xs with
    | stuck => rw [ef] at h; exact h.elim
    | exc e bs => rw [ef] at h; exact h.elim
    | ok q =>
      rw [ef] at h
      refine call_end (f := f) (c := ⟨c.K, c.mg, fun _ _ _ _ => False, c.bs, c.J, c.Jm⟩) ⟨S1, S.2⟩ r1 (hn _ _ _ e) (fun e q => q) ?_
      rw [ef]
      exact fun Hk2 H2 w x2 => h Hk2 H2 w (x1.trans x2)
theorem passes0 {P : Program} {w : World} {X : Cx} : Passes (L2N.CX P w) X fun _ _ _ => False := fun _ _ _ _ _ _ _ ⟨_, _, _, _, _, _, _, _, _, _, _, _, f⟩ => f.elim
theorem mo_call0 (F : FnOk X.prog X.w X.K X.mg X.base (L2N.CX X.prog X.w) k fa fd ps (spF X.K X.mg n [] f)) (hr : Room k X.A) (hm : X.mg x = some (.ref fa)) (hk : PySem.W.keepIn X.K (.ref fa) = true) (hb : Binds X.K fd ps [])
    (ha : PA X (e :: es) (rdA c a)) (hn : Lng a n) (hg : Gl X x := by rfl) (hK : c.K = X.K := by rfl) (hM : c.mg = X.mg := by rfl) (hdb : (x == ("__debug__" : Str)) = false := by decide) (he : starEach (e :: es) X.env = (false, eval e X.env) :: starEach es X.env := by rfl)
    (hpl : (backTo pos (starEach es X.env)).any (·.1) = false := by rfl) : PE X (.Call (.Name x p) (e :: es) [] pos) (rdO c (mCall0 f a)) :=
  PEw (pe_call F hr hg hm hk hb .nil passes0 ha hdb he hpl) fun σ H Q h => by
    have := rd_call0 hn h
    rw [hK, hM] at this
    exact this
end
section
variable {P : Program} {w : World} {K : PySem.W.Frag} {mg : Str → Option Value} {base : Heap}
theorem start_eq {N : List Str} {vs : List V} {xs : List MV} (h : vs.length = xs.length) : L2.start N vs = vs.map some ++ List.replicate (N.length - xs.length) none := by unfold L2.start; rw [h]
theorem fn_ok {x qual : Str} {st : Stmt} {f : Addr} {fd : FuncData} {N ps : List Str} {k : Nat} {bs : List Nat} {m : MS} (F : Fun K x qual st f fd) (S : FnScope N ps (defScope st)) (nd : bs.Nodup) (hbs : ∀ i ∈ bs, i < ps.length)
    (hbody : ∀ (cdv : Value) (A : Around) (outer : List PySem.Env) (s : Shared) (H : Hp) (E : XK), Room k (A.deeper (PyProof.Rows.envOfC qual (defScope st) s.heap.objs.size f cdv)) →
      PSs (cxOf (L2N.CX P w) P w K mg base N qual (defScope st) f cdv A outer s H E) (defBody st) (rdS ⟨K, mg, fun cls d _ H => E cls d H, bs, fun _ _ => True, fun _ _ _ _ _ => trivial⟩ m)) :
    FnOk P w K mg base (L2N.CX P w) (k + 1) f fd ps (spF K mg ps.length bs (mFn N.length bs m)) := by
  refine okXN F S (fun vs H Q E h => h.1) (fun cdv A outer s H vs Q E hr h => ⟨_, hbody cdv A outer s H E hr, ?_⟩)
  obtain ⟨hl, F', Hk, bp, xs, R, eb, h⟩ := h
  have el : vs.length = xs.length := by have := R.len; simpa using this
  rw [start_eq el]
  refine ⟨F', Hk, bp, _, ⟨R.pad _, eb, trivial⟩, ?_⟩
  have bor : ∀ {σ' : St} {Hk' H' : Hp} {ρ' : Env}, RS K F' Hk' H' bp σ' ρ' → bs.map (fun i => (σ'[i]?).join) = bp.map (fun q => some (.ref q.2)) := fun {σ' Hk' H' ρ'} S' => by
    rw [← eb, List.map_map]
    refine List.map_congr_left fun q hq => ?_
    show (σ'[q.1]?).join = _
    rw [S'.bor q hq]; rfl
  have bl : ∀ {σ' : St} {Hk' H' : Hp} {ρ' : Env}, RS K F' Hk' H' bp σ' ρ' → ∀ i ∈ bs, i < ρ'.length := fun {σ' Hk' H' ρ'} S' i hi => by
    rw [← eb] at hi
    obtain ⟨q, hq, rfl⟩ := List.mem_map.mp hi
    rw [← S'.len]; exact lt_get (S'.bor q hq)
  unfold mFn at h
  cases em : m (xs.map some ++ List.replicate (N.length - xs.length) none) with
  | stuck => rw [em] at h; exact h.elim
  | exc e ρ' =>
    rw [em] at h
    intro Hk' H' σ' cls d x S' er
    refine h Hk' H' cls d x ?_ er
    have z := ((S'.push (x := .non) (v := .non) (RV.non.mpr rfl)).pick bs nd (bl S')).drop (fun _ hq => nomatch hq)
    rw [bor S'] at z
    exact z
  | ok p =>
    obtain ⟨fl, ρ'⟩ := p
    rw [em] at h
    have ret : ∀ {Hk' H' : Hp} {σ' : St} {u : V} {v : MV}, okF K mg F' Hk (bp.map fun q => some (.ref q.2)) Q E (.ok (v, endOf bs ρ')) → Ex Hk Hk' → RS K F' Hk' H' bp (σ' ++ [some u]) (ρ' ++ [some v]) → (∀ q ∈ bp, q.1 < ρ'.length) → Q u H' := fun {Hk' H' σ' u v} h x S' hq => by
      refine h Hk' H' u x ?_
      have z := S'.pick bs nd (fun i hi => by
        rw [← eb] at hi
        obtain ⟨q, hq', rfl⟩ := List.mem_map.mp hi
        exact hq q hq')
      have l1 : σ'.length = ρ'.length := by have := S'.len; simpa using this
      have e2 : bs.map (fun i => (σ'[i]?).join) = bp.map (fun q => some (.ref q.2)) := by
        rw [← eb, List.map_map]
        refine List.map_congr_left fun q hq' => ?_
        show (σ'[q.1]?).join = _
        have := S'.bor q hq'
        rw [List.getElem?_append_left (by rw [l1]; exact hq q hq')] at this
        rw [this]; rfl
      rw [e2] at z
      exact z
    cases fl with
    | nx => exact fun Hk' H' σ' x S' => ret h x (S'.push (x := .non) (v := .non) (RV.non.mpr rfl)) (fun q hq => by rw [← S'.len]; exact lt_get (S'.bor q hq))
    | br => exact h.elim
    | ct => exact h.elim
    | rt v =>
      intro Hk' H' σ' u x lq S'
      have l1 : σ'.length = ρ'.length := by have := S'.len; simpa using this
      exact ret h x S' fun q hq => by rw [← l1]; exact lq q hq
end
end Tm
set_option Elab.async false
set_option linter.all false
set_option maxRecDepth 100000
set_option maxHeartbeats 2000000
namespace Tm
open PySem L2
open Evl (Ex ex_rd ex_l ex_t)
def CallS (K : PySem.W.Frag) (f : List MV → Option MV) (r : List V → Hp → VK → Prop) : Prop := ∀ (xs : List MV) (z : MV) (vs : List V) (Hk H : Hp) (Q : VK), f xs = some z → Ex Hk H → RVs K Hk xs vs → (∀ u, RV K Hk z u → Q u H) →
  (∀ p o, H p = none → RV K (upd Hk p o) z (.ref p) → Q (.ref p) (upd H p o)) → r vs H Q
def mBlt (f : List MV → Option MV) (a : MA) : ME := fun ρ => (a ρ).bind fun xs ρ1 => match f xs with | some z => .ok (z, ρ1) | none => .stuck
section
variable {X : Cx} {c : Ct} {x : Str} {p pos : Pos} {e : Expr} {es : List Expr} {a : MA} {id T : String} {f : List MV → Option MV} {r : List V → Hp → VK → Prop}
theorem rd_blt (o : CallS c.K f r) {σ : St} {H : Hp} {Q : VK} (h : rdE c (mBlt f a) σ H Q) : tCB r (rdA c a) σ H Q := by
  obtain ⟨F, Hk, bp, ρ, S, h⟩ := h
  refine rdAw (bA postE S h) fun vs H1 ⟨Hk1, xs, ρ1, x1, S1, r1, h1⟩ => ?_
  have h1 : okE c F Hk1 bp σ Q (match f xs with | some z => .ok (z, ρ1) | none => .stuck) := h1
  cases ef : f xs with
  | none => rw [ef] at h1; exact h1.elim
  | some z =>
    rw [ef] at h1
    exact o xs z vs Hk1 H1 Q ef S1.1.ex r1 (fun u ru => h1 _ _ u (Ex.refl _) S1.1 ru) fun p ob hp ru => h1 _ _ _ (Ex.new (S1.1.ex.back hp)) (S1.1.new hp) ru
theorem me_blt (hc : CallR X (.builtin id) r) (o : CallS c.K f r) (hm : X.mg x = none) (hv : bootBuiltins x = some (.builtin id)) (ha : PA X (e :: es) (rdA c a)) (hg : Gl X x := by rfl) (hn : x ≠ "__name__" := by decide) (hdb : (x == ("__debug__" : Str)) = false := by decide)
    (he : starEach (e :: es) X.env = (false, eval e X.env) :: starEach es X.env := by rfl) (hpl : (backTo pos (starEach es X.env)).any (·.1) = false := by rfl) : PE X (.Call (.Name x p) (e :: es) [] pos) (rdE c (mBlt f a)) :=
  PEw (pe_callB hc hg hm hv ha hn hdb he hpl) fun _ _ _ h => rd_blt o h
theorem me_ty (hc : CallR X (.type T) r) (o : CallS c.K f r) (hm : X.mg x = none) (hv : bootBuiltins x = some (.type T)) (ha : PA X (e :: es) (rdA c a)) (hg : Gl X x := by rfl) (hn : x ≠ "__name__" := by decide) (hdb : (x == ("__debug__" : Str)) = false := by decide)
    (he : starEach (e :: es) X.env = (false, eval e X.env) :: starEach es X.env := by rfl) (hpl : (backTo pos (starEach es X.env)).any (·.1) = false := by rfl) : PE X (.Call (.Name x p) (e :: es) [] pos) (rdE c (mBlt f a)) :=
  PEw (pe_callTy hc hg hm hv ha hn hdb he hpl) fun _ _ _ h => rd_blt o h
theorem me_glob {v : MV} {w : V} {u : Value} (hm : X.mg x = some u) (rv : RelV w u) (r : ∀ H, RV c.K H v w) (hg : Gl X x := by rfl) (hd : (x == ("__debug__" : Str)) = false := by decide) : PE X (.Name x pos) (rdE c (mC v)) :=
  PEw (pe_glob hg hm rv hd) fun _ _ _ h => rd_c r h
theorem me_bltn {w : V} {u : Value} (hm : X.mg x = none) (hv : bootBuiltins x = some u) (rv : RelV w u) (hg : Gl X x := by rfl) (hn : x ≠ "__name__" := by decide) (hd : (x == ("__debug__" : Str)) = false := by decide) : PE X (.Name x pos) (rdE c (mC (.raw w))) :=
  PEw (pe_bltn hg hm hv rv hn hd) fun _ _ _ h => rd_c (fun _ => RV.raw.mpr rfl) h
end
section
variable {K : PySem.W.Frag}
theorem rvs1 {H : Hp} {x : MV} {vs : List V} (r : RVs K H [x] vs) : ∃ v, vs = [v] ∧ RV K H x v := by
  obtain ⟨v, r', rfl, q1, q2⟩ := RVs.cons.mp r
  rw [RVs.nil.mp q2]
  exact ⟨v, rfl, q1⟩
theorem rvs2' {H : Hp} {x y : MV} {vs : List V} (r : RVs K H [x, y] vs) : ∃ v w, vs = [v, w] ∧ RV K H x v ∧ RV K H y w := by
  obtain ⟨v, r', rfl, q1, q2⟩ := RVs.cons.mp r
  obtain ⟨w, rfl, q3⟩ := rvs1 q2
  exact ⟨v, w, rfl, q1, q3⟩
def bLen : List MV → Option MV
  | [.lst xs] => some (.int xs.length)
  | [.tup xs] => some (.int xs.length)
  | [.scr ns] => some (.int ns.length)
  | [.str z] => if szOk z.length then some (.int z.length) else none
  | _ => none
def rLenM (K : PySem.W.Frag) : List V → Hp → VK → Prop := fun xs H Q => (∃ p ys, xs = [.ref p] ∧ (SqL K H p ys ∨ SqT K H p ys) ∧ Q (.int ys.length) H) ∨ ∃ z, xs = [.str z] ∧ z.length ≤ sizeLine ∧ Q (.int z.length) H
theorem cr_lenM {X : Cx} : CallR X (.builtin "len") (rLenM X.K) := CallR.or call_len_seq call_len_str
theorem cs_len : CallS K bLen (rLenM K) := by
  intro xs z vs Hk H Q e ex r q qn
  unfold bLen at e
  split at e
  · cases e
    obtain ⟨v, rfl, rv⟩ := rvs1 r
    obtain ⟨p1, ws, rfl, h1, s1⟩ := RV.lst.mp rv
    exact .inl ⟨p1, ws, rfl, .inl (SqL.of (ex _ _ h1)), by rw [s1.length]; exact q _ (RV.int.mpr rfl)⟩
  · cases e
    obtain ⟨v, rfl, rv⟩ := rvs1 r
    obtain ⟨p1, ws, rfl, h1, s1⟩ := RV.tup.mp rv
    exact .inl ⟨p1, ws, rfl, .inr (ex_t ex h1), by rw [s1.length]; exact q _ (RV.int.mpr rfl)⟩
  · cases e
    obtain ⟨v, rfl, rv⟩ := rvs1 r
    obtain ⟨p1, rfl, h1⟩ := RV.scr.mp rv
    exact .inl ⟨p1, _, rfl, .inl (ex_l ex h1), by rw [List.length_map]; exact q _ (RV.int.mpr rfl)⟩
  · split at e
    · rename_i hz
      cases e
      obtain ⟨v, rfl, rv⟩ := rvs1 r
      exact .inr ⟨_, by rw [RV.str.mp rv], szOk_iff.mp hz, q _ (RV.int.mpr rfl)⟩
    · cases e
  · cases e
def bAbs : List MV → Option MV
  | [.int i] => some (.int (if i < 0 then -i else i))
  | _ => none
theorem cs_abs : CallS K bAbs (fun xs H Q => ∃ i, xs = [.int i] ∧ Q (.int (if i < 0 then -i else i)) H) := by
  intro xs z vs Hk H Q e ex r q qn
  unfold bAbs at e
  split at e
  · cases e
    exact ⟨_, rvs_int1 r, q _ (RV.int.mpr rfl)⟩
  · cases e
def bMin : List MV → Option MV
  | [.int i, .int j] => some (.int (if j < i then j else i))
  | _ => none
theorem cs_min : CallS K bMin (fun xs H Q => ∃ i j, xs = [.int i, .int j] ∧ Q (.int (if j < i then j else i)) H) := by
  intro xs z vs Hk H Q e ex r q qn
  unfold bMin at e
  split at e
  · cases e
    exact ⟨_, _, rvs_int2 r, q _ (RV.int.mpr rfl)⟩
  · cases e
def bInt : List MV → Option MV
  | [.int i] => some (.int i)
  | [.bl k] => some (.int (if k then 1 else 0))
  | [.str s] => if decide (s.length ≤ 640) then (PySem.intText? s).map .int else none
  | _ => none
def rIntM : List V → Hp → VK → Prop := fun xs H Q => ((∃ i, xs = [.int i] ∧ Q (.int i) H) ∨ ∃ k, xs = [.bl k] ∧ Q (.int (if k then 1 else 0)) H) ∨ ∃ a n, xs = [.str a] ∧ PySem.intText? a = some n ∧ a.length ≤ 640 ∧ Q (.int n) H
theorem cr_intM {X : Cx} : CallR X (.type "int") rIntM := CallR.or call_int1 call_int_str
theorem cs_int : CallS K bInt rIntM := by
  intro xs z vs Hk H Q e ex r q qn
  unfold bInt at e
  split at e
  · cases e
    exact .inl (.inl ⟨_, rvs_int1 r, q _ (RV.int.mpr rfl)⟩)
  · cases e
    obtain ⟨v, rfl, rv⟩ := rvs1 r
    exact .inl (.inr ⟨_, by rw [RV.bl.mp rv], q _ (RV.int.mpr rfl)⟩)
  · split at e
    · rename_i s hs
      cases en : PySem.intText? s with
      | none => rw [en] at e; cases e
      | some n =>
        rw [en] at e
        cases e
        obtain ⟨v, rfl, rv⟩ := rvs1 r
        exact .inr ⟨s, n, by rw [RV.str.mp rv], en, of_decide_eq_true hs, q _ (RV.int.mpr rfl)⟩
    · cases e
  · cases e
def bTuple : List MV → Option MV
  | [.lst xs] => some (.tup xs)
  | [.tup xs] => some (.tup xs)
  | _ => none
theorem cs_tuple : CallS K bTuple (fun xs H Q => ∃ p ys, xs = [.ref p] ∧ ((SqL K H p ys ∧ ∀ l, H l = none → Q (.ref l) (upd H l (.tup ys))) ∨ (SqT K H p ys ∧ Q (.ref p) H))) := by
  intro xs z vs Hk H Q e ex r q qn
  unfold bTuple at e
  split at e
  · cases e
    obtain ⟨v, rfl, rv⟩ := rvs1 r
    obtain ⟨p1, ws, rfl, h1, s1⟩ := RV.lst.mp rv
    exact ⟨p1, ws, rfl, .inl ⟨SqL.of (ex _ _ h1), fun l hl => qn l _ hl (RV.tup.mpr ⟨l, ws, rfl, SqT.of upd_same, s1.mono (Ex.new (ex.back hl))⟩)⟩⟩
  · cases e
    obtain ⟨v, rfl, rv⟩ := rvs1 r
    obtain ⟨p1, ws, e1, h1, s1⟩ := RV.tup.mp rv
    subst e1
    exact ⟨p1, ws, rfl, .inr ⟨ex_t ex h1, q _ rv⟩⟩
  · cases e
def bList : List MV → Option MV
  | [.lst xs] => some (.lst xs)
  | [.tup xs] => some (.lst xs)
  | [.scr ns] => some (.lst (ns.map .int))
  | _ => none
def rListM (K : PySem.W.Frag) : List V → Hp → VK → Prop := fun xs H Q => ∃ p ys, xs = [.ref p] ∧ (SqL K H p ys ∨ SqT K H p ys) ∧ ∀ l, H l = none → Q (.ref l) (upd H l (.lst ys))
theorem list_src {Hk H : Hp} {xs : List MV} {ys : List MV} {vs : List V} (e : bList xs = some (.lst ys)) (ex : Ex Hk H) (r : RVs K Hk xs vs) : ∃ p ws, vs = [.ref p] ∧ (SqL K H p ws ∨ SqT K H p ws) ∧ RVs K Hk ys ws := by
  unfold bList at e
  split at e
  · cases e
    obtain ⟨v, rfl, rv⟩ := rvs1 r
    obtain ⟨p1, ws, rfl, h1, s1⟩ := RV.lst.mp rv
    exact ⟨p1, ws, rfl, .inl (SqL.of (ex _ _ h1)), s1⟩
  · cases e
    obtain ⟨v, rfl, rv⟩ := rvs1 r
    obtain ⟨p1, ws, rfl, h1, s1⟩ := RV.tup.mp rv
    exact ⟨p1, ws, rfl, .inr (ex_t ex h1), s1⟩
  · cases e
    obtain ⟨v, rfl, rv⟩ := rvs1 r
    obtain ⟨p1, rfl, h1⟩ := RV.scr.mp rv
    exact ⟨p1, _, rfl, .inl (ex_l ex h1), RVs.ints.mpr rfl⟩
  · cases e
def blsOf : List MV → Option (List Bool)
  | [] => some []
  | .bl b :: r => (blsOf r).map (b :: ·)
  | _ => none
theorem bls_rv {H : Hp} : ∀ {xs : List MV} {bs : List Bool} {vs : List V}, blsOf xs = some bs → RVs K H xs vs → vs = bs.map V.bl
  | [], bs, vs, e, r => by cases e; rw [RVs.nil.mp r]; rfl
  | .bl b :: r', bs, vs, e, r => by
    unfold blsOf at e
    cases h : blsOf r' with
    | none => rw [h] at e; cases e
    | some cs =>
      rw [h] at e
      cases e
      obtain ⟨v, us, rfl, q1, q2⟩ := RVs.cons.mp r
      rw [RV.bl.mp q1, bls_rv h q2]; rfl
  | .non :: _, _, _, e, _ => by cases e
  | .int _ :: _, _, _, e, _ => by cases e
  | .str _ :: _, _, _, e, _ => by cases e
  | .tup _ :: _, _, _, e, _ => by cases e
  | .lst _ :: _, _, _, e, _ => by cases e
  | .own _ :: _, _, _, e, _ => by cases e
  | .raw _ :: _, _, _, e, _ => by cases e
  | .scr _ :: _, _, _, e, _ => by cases e
  | .fnc _ :: _, _, _, e, _ => by cases e
  | .obj _ _ :: _, _, _, e, _ => by cases e
  | .dct _ _ :: _, _, _, e, _ => by cases e
  | .dow _ _ :: _, _, _, e, _ => by cases e
  | .dot _ _ :: _, _, _, e, _ => by cases e
def bAll : List MV → Option MV
  | [.lst xs] => (blsOf xs).map fun bs => .bl (bs.all id)
  | _ => none
def bAny : List MV → Option MV
  | [.lst xs] => (blsOf xs).map fun bs => .bl (bs.any id)
  | _ => none
theorem cs_all : CallS K bAll (rAll K) := by
  intro xs z vs Hk H Q e ex r q qn
  unfold bAll at e
  split at e
  · rename_i ys
    cases h : blsOf ys with
    | none => rw [h] at e; cases e
    | some bs =>
      rw [h] at e
      cases e
      obtain ⟨v, rfl, rv⟩ := rvs1 r
      obtain ⟨p1, ws, rfl, h1, s1⟩ := RV.lst.mp rv
      have ew := bls_rv h s1
      subst ew
      exact ⟨p1, bs, rfl, SqL.of (ex _ _ h1), q _ (RV.bl.mpr rfl)⟩
  · cases e
theorem cs_any : CallS K bAny (rAny K) := by
  intro xs z vs Hk H Q e ex r q qn
  unfold bAny at e
  split at e
  · rename_i ys
    cases h : blsOf ys with
    | none => rw [h] at e; cases e
    | some bs =>
      rw [h] at e
      cases e
      obtain ⟨v, rfl, rv⟩ := rvs1 r
      obtain ⟨p1, ws, rfl, h1, s1⟩ := RV.lst.mp rv
      have ew := bls_rv h s1
      subst ew
      exact ⟨p1, bs, rfl, SqL.of (ex _ _ h1), q _ (RV.bl.mpr rfl)⟩
  · cases e
inductive Kd where
  | non | bl | int | str | tup | lst
  deriving DecidableEq
def Kd.name : Kd → String
  | .non => "NoneType" | .bl => "bool" | .int => "int" | .str => "str" | .tup => "tuple" | .lst => "list"
def MV.kd : MV → Option Kd
  | .non => some .non | .bl _ => some .bl | .int _ => some .int | .str _ => some .str | .tup _ => some .tup | .lst _ => some .lst
  | _ => none
def kdOf : String → Option Kd
  | "bool" => some .bl | "int" => some .int | "str" => some .str | "tuple" => some .tup | "list" => some .lst
  | _ => none
def Kd.isa (a b : Kd) : Bool := decide (a = b) || (decide (a = .bl) && decide (b = .int))
theorem kit_kd (a b : Kd) (h : b ≠ .non) : kitB a.name b.name = some (a.isa b) := by
  cases a <;> cases b <;> first | exact (h rfl).elim | decide +kernel
def bIsi : List MV → Option MV
  | [x, .raw (.ty T)] => match x.kd, kdOf T with
    | some a, some b => some (.bl (a.isa b))
    | _, _ => none
  | _ => none
theorem kdOf_name {T : String} {b : Kd} (h : kdOf T = some b) : T = b.name ∧ b ≠ .non := by
  unfold kdOf at h
  split at h <;> first | (cases h; exact ⟨rfl, by decide⟩) | cases h
theorem ty_of {Hk H : Hp} {x : MV} {v : V} {a : Kd} (ex : Ex Hk H) (r : RV K Hk x v) (h : x.kd = some a) : TyX K H v (.type a.name) := by
  cases x with
  | non => cases h; rw [RV.non.mp r]; exact .base .non
  | bl b => cases h; rw [RV.bl.mp r]; exact .base (.bl b)
  | int b => cases h; rw [RV.int.mp r]; exact .base (.int b)
  | str b => cases h; rw [RV.str.mp r]; exact .base (.str b)
  | tup xs =>
    cases h
    obtain ⟨p, vs, rfl, h1, _⟩ := RV.tup.mp r
    rcases ex_t ex h1 with (h1 | ⟨o, h1⟩) | ⟨o, its, n, h1, h2, _⟩
    · exact .base (.tup h1)
    · exact .fTuple h1
    · exact .kTuple h1 h2
  | lst xs =>
    cases h
    obtain ⟨p, vs, rfl, h1, _⟩ := RV.lst.mp r
    exact .base (.lst (ex _ _ h1))
  | _ => cases h
theorem cs_isi : CallS K bIsi (rIsi K) := by
  intro xs z vs Hk H Q e ex r q qn
  unfold bIsi at e
  split at e
  · rename_i x T
    split at e
    · rename_i a b e1 e2
      cases e
      obtain ⟨v, w, rfl, r1, r2⟩ := rvs2' r
      obtain ⟨et, nb⟩ := kdOf_name e2
      refine ⟨v, w, _, .type T, _, rfl, ?_, ty_of ex r1 e1, ?_, q _ (RV.bl.mpr rfl)⟩
      · rw [RV.raw.mp r2]; exact .ty T
      · subst et; exact kit_ty (kit_kd a b nb)
    · cases e
  · cases e
end
section
variable {X : Cx} {c : Ct} {p pos : Pos} {e e2 : Expr} {es : List Expr} {a : MA}
theorem mb_len (hm : X.mg "len" = none) (ha : PA X [e] (rdA c a)) (hK : c.K = X.K := by rfl) (hg : Gl X "len" := by rfl) (he : starEach [e] X.env = (false, eval e X.env) :: starEach [] X.env := by rfl) (hpl : (backTo pos (starEach [] X.env)).any (·.1) = false := by rfl) : PE X (.Call (.Name "len" p) [e] [] pos) (rdE c (mBlt bLen a)) :=
  me_blt cr_lenM (by rw [← hK]; exact cs_len) hm PySem.boot_len ha hg (he := he) (hpl := hpl)
theorem mb_abs (hm : X.mg "abs" = none) (ha : PA X [e] (rdA c a)) (hg : Gl X "abs" := by rfl) (he : starEach [e] X.env = (false, eval e X.env) :: starEach [] X.env := by rfl) (hpl : (backTo pos (starEach [] X.env)).any (·.1) = false := by rfl) : PE X (.Call (.Name "abs" p) [e] [] pos) (rdE c (mBlt bAbs a)) :=
  me_blt call_abs cs_abs hm (by decide +kernel) ha hg (he := he) (hpl := hpl)
theorem mb_min (hc : X.calm = true) (hm : X.mg "min" = none) (ha : PA X [e, e2] (rdA c a)) (hg : Gl X "min" := by rfl) (he : starEach [e, e2] X.env = (false, eval e X.env) :: starEach [e2] X.env := by rfl) (hpl : (backTo pos (starEach [e2] X.env)).any (·.1) = false := by rfl) : PE X (.Call (.Name "min" p) [e, e2] [] pos) (rdE c (mBlt bMin a)) :=
  me_blt (call_min2 hc) cs_min hm (by decide +kernel) ha hg (he := he) (hpl := hpl)
theorem mb_int (hm : X.mg "int" = none) (ha : PA X [e] (rdA c a)) (hg : Gl X "int" := by rfl) (he : starEach [e] X.env = (false, eval e X.env) :: starEach [] X.env := by rfl) (hpl : (backTo pos (starEach [] X.env)).any (·.1) = false := by rfl) : PE X (.Call (.Name "int" p) [e] [] pos) (rdE c (mBlt bInt a)) :=
  me_ty cr_intM cs_int hm (by decide +kernel) ha hg (he := he) (hpl := hpl)
theorem mb_tuple (hm : X.mg "tuple" = none) (ha : PA X [e] (rdA c a)) (hK : c.K = X.K := by rfl) (hg : Gl X "tuple" := by rfl) (he : starEach [e] X.env = (false, eval e X.env) :: starEach [] X.env := by rfl) (hpl : (backTo pos (starEach [] X.env)).any (·.1) = false := by rfl) : PE X (.Call (.Name "tuple" p) [e] [] pos) (rdE c (mBlt bTuple a)) :=
  me_ty call_tuple_of (by rw [← hK]; exact cs_tuple) hm (by decide +kernel) ha hg (he := he) (hpl := hpl)
def mListO (a : MA) : ME := fun ρ => (a ρ).bind fun xs ρ1 => match bList xs with | some (.lst ys) => .ok (.own ys, ρ1) | _ => .stuck
theorem mbo_list (hm : X.mg "list" = none) (ha : PA X [e] (rdA c a)) (hK : c.K = X.K := by rfl) (hg : Gl X "list" := by rfl) (he : starEach [e] X.env = (false, eval e X.env) :: starEach [] X.env := by rfl) (hpl : (backTo pos (starEach [] X.env)).any (·.1) = false := by rfl) : PE X (.Call (.Name "list" p) [e] [] pos) (rdO c (mListO a)) :=
  PEw (pe_callTy (r := rListM X.K) call_list_of hg hm (by decide +kernel) ha (he := he) (hpl := hpl)) fun σ H Q h => by
    obtain ⟨F, Hk, bp, ρ, S, h⟩ := h
    refine rdAw (bA postO S h) fun vs H1 ⟨Hk1, xs, ρ1, x1, S1, r1, h1⟩ => ?_
    split at h1
    · rename_i ys ey
      obtain ⟨q, ws, rfl, g, s⟩ := list_src ey S1.1.ex r1
      exact ⟨q, ws, rfl, by rw [← hK]; exact g, fun l hl => h1 _ _ _ (Ex.refl _) (S1.1.pushOwn hl s)⟩
    · exact h1.elim
theorem mb_all (hc : X.calm = true) (hm : X.mg "all" = none) (ha : PA X [e] (rdA c a)) (hK : c.K = X.K := by rfl) (hg : Gl X "all" := by rfl) (he : starEach [e] X.env = (false, eval e X.env) :: starEach [] X.env := by rfl) (hpl : (backTo pos (starEach [] X.env)).any (·.1) = false := by rfl) : PE X (.Call (.Name "all" p) [e] [] pos) (rdE c (mBlt bAll a)) :=
  me_blt (cr_all hc) (by rw [← hK]; exact cs_all) hm (by decide +kernel) ha hg (he := he) (hpl := hpl)
theorem mb_any (hc : X.calm = true) (hm : X.mg "any" = none) (ha : PA X [e] (rdA c a)) (hK : c.K = X.K := by rfl) (hg : Gl X "any" := by rfl) (he : starEach [e] X.env = (false, eval e X.env) :: starEach [] X.env := by rfl) (hpl : (backTo pos (starEach [] X.env)).any (·.1) = false := by rfl) : PE X (.Call (.Name "any" p) [e] [] pos) (rdE c (mBlt bAny a)) :=
  me_blt (cr_any hc) (by rw [← hK]; exact cs_any) hm (by decide +kernel) ha hg (he := he) (hpl := hpl)
theorem mb_isi (hm : X.mg "isinstance" = none) (ha : PA X [e, e2] (rdA c a)) (hK : c.K = X.K := by rfl) (hg : Gl X "isinstance" := by rfl) (he : starEach [e, e2] X.env = (false, eval e X.env) :: starEach [e2] X.env := by rfl) (hpl : (backTo pos (starEach [e2] X.env)).any (·.1) = false := by rfl) : PE X (.Call (.Name "isinstance" p) [e, e2] [] pos) (rdE c (mBlt bIsi a)) :=
  me_blt call_isi (by rw [← hK]; exact cs_isi) hm (by decide +kernel) ha hg (he := he) (hpl := hpl)
end
end Tm
set_option Elab.async false
set_option linter.all false
set_option maxRecDepth 100000
set_option maxHeartbeats 2000000
namespace Tm
open PySem L2
open Evl (Ex ex_rd ex_l ex_t)
section
variable {X : Cx} {c : Ct} {p pos apos cpos : Pos} {e e2 : Expr} {es : List Expr} {a b : ME} {m : MA} {x : Str} {i : Nat}
def isOwn (ρ : Env) (i : Nat) : Bool := match ρ[i]? with | some (some (.own _)) => true | _ => false
theorem own_rs {F Hk H : Hp} {bp : List (Nat × Addr)} {σ : St} {ρ : Env} {i : Nat} (S : At c F Hk H bp σ ρ) (h : isOwn ρ i = true) : ∃ q vs, σ[i]? = some (some (.ref q)) ∧ H q = some (.lst vs) := by
  unfold isOwn at h
  split at h
  · rename_i xs e
    obtain ⟨q, vs, e1, e2, _⟩ := S.1.getOwn e
    exact ⟨q, vs, e1, e2⟩
  · cases h
theorem change_rs {F Hk H : Hp} {bp : List (Nat × Addr)} {σ : St} {ρ : Env} {i : Nat} {xs ys : List MV} {q : Addr} (S : At c F Hk H bp σ ρ) (h : ρ[i]? = some (some (.own xs))) (eq : σ[i]? = some (some (.ref q))) :
    ∃ vs, H q = some (.lst vs) ∧ RVs c.K Hk xs vs ∧ ∀ ws, RVs c.K Hk ys ws → RS c.K F Hk (upd H q (.lst ws)) bp σ (ρ.set i (some (.own ys))) := by
  obtain ⟨p, vs, e1, e2, e3, e4⟩ := S.1.change (ys := ys) h
  rw [eq] at e1
  cases e1
  exact ⟨vs, e2, e3, e4⟩
def mLm (f : List MV → List MV → Option (List MV × MV)) (i : Nat) (a : MA) : ME := fun ρ => if isOwn ρ i then (a ρ).bind fun ys ρ1 => match ρ1[i]? with
  | some (some (.own xs)) => (match f xs ys with | some (zs, z) => .ok (z, ρ1.set i (some (.own zs))) | none => .stuck)
  | _ => .stuck else .stuck
def LmS (K : PySem.W.Frag) (f : List MV → List MV → Option (List MV × MV)) (r : V → List V → Hp → VK → Prop) : Prop := ∀ (xs ys zs : List MV) (z : MV) (q : Addr) (vs us : List V) (Hk H : Hp) (Q : VK), f xs ys = some (zs, z) → Ex Hk H → H q = some (.lst vs) → RVs K Hk xs vs → RVs K Hk ys us →
  (∀ ws u, RVs K Hk zs ws → RV K Hk z u → Q u (upd H q (.lst ws))) → r (.ref q) us H Q
theorem rd_lm {f : List MV → List MV → Option (List MV × MV)} {r : V → List V → Hp → VK → Prop} (o : LmS c.K f r) {σ : St} {H : Hp} {Q : VK} (h : rdE c (mLm f i m) σ H Q) : tBM c.K "list" r (tVar i) (rdA c m) σ H Q := by
  obtain ⟨F, Hk, bp, ρ, S, h⟩ := h
  unfold mLm at h
  split at h
  · rename_i ho
    obtain ⟨q, vs0, eq, hq⟩ := own_rs S ho
    refine ⟨_, eq, .inl ⟨rfl, _, SqL.of hq⟩, ?_⟩
    refine rdAw (bA postE S h) fun us H1 ⟨Hk1, ys, ρ1, x1, S1, r1, h1⟩ => ?_
    split at h1
    · rename_i xs ex
      split at h1
      · rename_i zs z ef
        obtain ⟨vs, g1, g2, g3⟩ := change_rs (ys := zs) S1 ex eq
        exact o xs ys zs z q vs us Hk1 H1 Q ef S1.1.ex g1 g2 r1 fun ws u r2 r3 => h1 _ _ u (Ex.refl _) (g3 ws r2) r3
      · exact h1.elim
    · exact h1.elim
  · exact h.elim
def lmAppend : List MV → List MV → Option (List MV × MV)
  | xs, [y] => if decide (xs.length < sizeLine) then some (xs ++ [y], .non) else none
  | _, _ => none
theorem ls_append {K : PySem.W.Frag} : LmS K lmAppend rAppend := by
  intro xs ys zs z q vs us Hk H Q e ex hq r1 r2 k
  unfold lmAppend at e
  split at e
  · split at e
    · rename_i h
      cases e
      obtain ⟨v, rfl, rv⟩ := rvs1 r2
      refine ⟨q, vs, v, rfl, rfl, hq, by rw [r1.length]; exact of_decide_eq_true h, k _ _ (r1.append ?_) (RV.non.mpr rfl)⟩
      exact RVs.cons.mpr ⟨v, [], rfl, rv, RVs.nil.mpr rfl⟩
    · cases e
  · cases e
def lmExtend : List MV → List MV → Option (List MV × MV)
  | xs, [.lst ys] => if szOk (xs.length + ys.length) then some (xs ++ ys, .non) else none
  | _, _ => none
theorem ls_extend {K : PySem.W.Frag} : LmS K lmExtend rExtend := by
  intro xs ys zs z q vs us Hk H Q e ex hq r1 r2 k
  unfold lmExtend at e
  split at e
  · split at e
    · rename_i h
      cases e
      obtain ⟨v, rfl, rv⟩ := rvs1 r2
      obtain ⟨p1, ws, rfl, h1, s1⟩ := RV.lst.mp rv
      exact ⟨q, p1, vs, ws, rfl, rfl, hq, ex _ _ h1, by rw [r1.length, s1.length]; exact szOk_iff.mp h, k _ _ (r1.append s1) (RV.non.mpr rfl)⟩
    · cases e
  · cases e
theorem me_lm1 {f : List MV → List MV → Option (List MV × MV)} {r : V → List V → Hp → VK → Prop} {id : String} {name : Str} (o : LmS c.K f r) (slot : Slot "list" name id) (hty : typeOf (.builtin id) = pure (.type "method_descriptor")) (hm : MtR X id r) (hN : X.N[i]? = some x) (hv : Vis X.env.scope x) (ha : PA X (e :: es) (rdA c m)) (hK : c.K = X.K := by rfl)
    (hbase : attributeBase (.Name x p) name X.env (eval (.Name x p) X.env) = eval (.Name x p) X.env := by rfl)
    (hfew : ((backTo cpos (starEach (e :: es) X.env)).all (fun x => !x.1) && (backToKw cpos (keywordEach [] X.env)).all (fun x => x.1.isSome)
      && decide ((e :: es).length + ([] : List Keyword).length + (if ([] : List Keyword).isEmpty then 0 else 1) < 30)) = true := by rfl)
    (hline : (apos.endLine == cpos.line) = true := by rfl) (hs : starEach (e :: es) X.env = (false, eval e X.env) :: starEach es X.env := by rfl) (hplain : (backTo cpos (starEach es X.env)).any (·.1) = false := by rfl)
    (hd : (x == ("__debug__" : Str)) = false := by decide) (hcd : (x == ("__classdict__" : Str)) = false := by decide) : PE X (.Call (.Attribute (.Name x p) name apos) (e :: es) [] cpos) (rdE c (mLm f i m)) :=
  PEw (pe_bm PySem.F.plainAttrs_list slot hty hm (pe_var hN hv hd hcd) ha hbase hfew hline hs hplain) fun σ H Q h => by
    have := rd_lm o h
    rw [hK] at this
    exact this
def mSetIx (i : Nat) (a b : ME) : MS := fun ρ => (a ρ).bind fun z ρ1 => if has ρ1 i then (b ρ1).bind fun y ρ2 => match ρ2[i]?, y with
  | some (some (.own xs)), .int k => (match ixN xs.length k with | some j => .ok (.nx, ρ2.set i (some (.own (xs.set j z)))) | none => .stuck)
  | _, _ => .stuck else .stuck
theorem rd_setIx {D : Ends} {σ : St} {H : Hp} (h : rdS c (mSetIx i a b) D σ H) : tAsg (rdE c a) (gSub (tVar i) (rdE c b) rSetL) D σ H := by
  obtain ⟨F, Hk, bp, ρ, S, h⟩ := h
  refine rdw (bE (postS (σ := σ)) S h) fun v H1 ⟨Hk1, z, ρ1, x1, S1, r1, h1⟩ => ?_
  split at h1
  · rename_i hh
    obtain ⟨w, ew⟩ := has_rs S1 hh
    refine ⟨w, ew, ?_⟩
    refine rdw (bE (postS (σ := σ)) S1 h1) fun y' H2 ⟨Hk2, y, ρ2, x2, S2, r2, h2⟩ => ?_
    split at h2
    · rename_i xs k hx
      split at h2
      · rename_i j ej
        obtain ⟨q, vs, e1, _⟩ := S2.1.getOwn hx
        rw [ew] at e1
        cases e1
        obtain ⟨vs, g1, g2, g3⟩ := change_rs (ys := xs.set j z) S2 hx ew
        exact ⟨q, vs, k, j, rfl, RV.int.mp r2, g1, by rw [g2.length]; exact ej, h2 _ _ _ (Ex.refl _) (g3 _ (g2.set j (RV.mono x2 _ _ r1)))⟩
      · exact h2.elim
    · exact h2.elim
  · exact h1.elim
theorem ms_setIx {ee : Expr} (hN : X.N[i]? = some x) (hv : Vis X.env.scope x) (he : PE X e (rdE c a)) (hb : PE X ee (rdE c b)) (hs : swapsWithSole [.Subscript (.Name x p) ee apos] e pos.line X.env = pure false := by rfl) (hw : swappedStores [.Subscript (.Name x p) ee apos] e X.env = pure none := by rfl)
    (h1 : (assignEach [.Subscript (.Name x p) ee apos] X.env).map (·.2) = [assign (.Subscript (.Name x p) ee apos) X.env] := by rfl)
    (ha : ∀ v, assign (.Subscript (.Name x p) ee apos) X.env v = (do
      let ov ← holding [v] (eval (.Name x p) X.env)
      let iv ← holding [v, ov] (eval ee X.env)
      standAt apos
      holding [v, ov, iv] (setItem ov iv v)
      release [v, ov, iv] []) := by intro _; rfl)
    (hd : (x == ("__debug__" : Str)) = false := by decide) (hcd : (x == ("__classdict__" : Str)) = false := by decide) : PS X (.Assign [.Subscript (.Name x p) ee apos] e pos) (rdS c (mSetIx i a b)) :=
  PSw (ps_asg he (pg_sub (pe_var hN hv hd hcd) hb set_list ha) hs hw h1) fun _ _ _ h => rd_setIx h
end
end Tm
set_option Elab.async false
set_option linter.all false
set_option maxRecDepth 100000
set_option maxHeartbeats 2000000
namespace Tm
open PySem L2
open Evl (Ex ex_rd ex_l ex_t)
inductive Tgt where
  | nm (i : Nat) | tp (is : List Nat) | tn (is : List Nat) (j : Nat)
def gsOf : List Nat → TGs
  | [] => gNil
  | i :: is => gCons (gName i) (gsOf is)
def gOf (K : PySem.W.Frag) : Tgt → TG
  | .nm i => gName i
  | .tp is => gTup K is.length (gsOf is)
  | .tn is j => gTup K 2 (gCons (gTup K is.length (gsOf is)) (gCons (gName j) gNil))
def setAll : List Nat → List MV → Env → Option Env
  | [], [], ρ => some ρ
  | i :: is, x :: xs, ρ => if i < ρ.length then setAll is xs (ρ.set i (some x)) else none
  | _, _, _ => none
def setT (t : Tgt) (x : MV) (ρ : Env) : Option Env := match t with
  | .nm i => if i < ρ.length then some (ρ.set i (some x)) else none
  | .tp is => match x with
    | .tup xs => if xs.length = is.length then setAll is xs ρ else none
    | _ => none
  | .tn is j => match x with
    | .tup [.tup xs, y] => if xs.length = is.length then (setAll is xs ρ).bind fun ρ1 => if j < ρ1.length then some (ρ1.set j (some y)) else none else none
    | _ => none
def Tgt.slots : Tgt → List Nat
  | .nm i => [i]
  | .tp is => is
  | .tn is j => is ++ [j]
theorem wipe_get (σ : St) : ∀ (vs : List Nat) (j : Nat), (wipe σ vs)[j]? = if j ∈ vs ∧ j < σ.length then some none else σ[j]?
  | [], j => by simp [wipe]
  | v :: vs, j => by
    unfold wipe
    by_cases e : v = j
    · subst e
      by_cases hl : v < σ.length
      · rw [List.getElem?_set_self (by rw [wipe_length]; exact hl), if_pos ⟨by simp, hl⟩]
      · rw [if_neg (by intro h; exact hl h.2), List.getElem?_eq_none (by rw [List.length_set, wipe_length]; omega), List.getElem?_eq_none (by omega)]
    · rw [List.getElem?_set_ne e, wipe_get σ vs j]
      by_cases hm : j ∈ vs ∧ j < σ.length
      · rw [if_pos hm, if_pos ⟨List.mem_cons_of_mem _ hm.1, hm.2⟩]
      · rw [if_neg hm, if_neg (fun h => hm ⟨(List.mem_cons.mp h.1).resolve_left (Ne.symm e), h.2⟩)]
theorem wipe_set {σ : St} {vs : List Nat} {i : Nat} {y : Option V} (h : i ∈ vs) : wipe (σ.set i y) vs = wipe σ vs := by
  refine List.ext_getElem? fun j => ?_
  rw [wipe_get, wipe_get, List.length_set]
  by_cases hm : j ∈ vs ∧ j < σ.length
  · rw [if_pos hm, if_pos hm]
  · rw [if_neg hm, if_neg hm]
    by_cases e : i = j
    · subst e
      have : σ.length ≤ i := Nat.le_of_not_lt fun z => hm ⟨h, z⟩
      rw [List.getElem?_eq_none (by simpa using this), List.getElem?_eq_none this]
    · rw [List.getElem?_set_ne e]
theorem wipe_wipe (σ : St) (vs : List Nat) : wipe (wipe σ vs) vs = wipe σ vs := by
  refine List.ext_getElem? fun j => ?_
  rw [wipe_get, wipe_length, wipe_get]
  by_cases hm : j ∈ vs ∧ j < σ.length
  · rw [if_pos hm, if_pos hm]
  · rw [if_neg hm]
def wipeM (ρ : Env) : List Nat → Env
  | [] => ρ
  | v :: vs => (wipeM ρ vs).set v none
theorem wipeM_len (ρ : Env) : ∀ vs : List Nat, (wipeM ρ vs).length = ρ.length
  | [] => rfl
  | v :: vs => by unfold wipeM; rw [List.length_set, wipeM_len ρ vs]
theorem wipeM_get (σ : Env) : ∀ (vs : List Nat) (j : Nat), (wipeM σ vs)[j]? = if j ∈ vs ∧ j < σ.length then some none else σ[j]?
  | [], j => by simp [wipeM]
  | v :: vs, j => by
    unfold wipeM
    by_cases e : v = j
    · subst e
      by_cases hl : v < σ.length
      · rw [List.getElem?_set_self (by rw [wipeM_len]; exact hl), if_pos ⟨by simp, hl⟩]
      · rw [if_neg (by intro h; exact hl h.2), List.getElem?_eq_none (by rw [List.length_set, wipeM_len]; omega), List.getElem?_eq_none (by omega)]
    · rw [List.getElem?_set_ne e, wipeM_get σ vs j]
      by_cases hm : j ∈ vs ∧ j < σ.length
      · rw [if_pos hm, if_pos ⟨List.mem_cons_of_mem _ hm.1, hm.2⟩]
      · rw [if_neg hm, if_neg (fun h => hm ⟨(List.mem_cons.mp h.1).resolve_left (Ne.symm e), h.2⟩)]
def perAt (ρ : Env) (vs : List Nat) : Bool := vs.all fun i => match ρ[i]? with
  | some (some x) => x.per
  | _ => true
def backM (ρ ρ' : Env) (vs : List Nat) : Env := vs.foldl (fun r i => r.set i ((ρ[i]?).join)) ρ'
section
variable {K : PySem.W.Frag} {F Hk H : Hp} {bp : List (Nat × Addr)} {σ : St} {ρ : Env}
theorem SL.setNone {ow : Nat → List Addr} (S : SL K F Hk H ow σ ρ) {i : Nat} : SL K F Hk H (put ow i []) (σ.set i none) (ρ.set i none) := by
  refine ⟨fun j y h => ?_, fun j a h => ?_, fun j h => ?_, fun j k a hjk h => ?_⟩
  · rcases set_get h with ⟨_, e⟩ | ⟨ne, e⟩
    · cases e
    · obtain ⟨u, e1, e2⟩ := S.s j y e
      exact ⟨u, by rw [List.getElem?_set_ne (Ne.symm ne)]; exact e1, by rw [put_ne ne]; exact e2⟩
  · by_cases e : j = i
    · rw [e, put_same] at h; cases h
    · rw [put_ne e] at h; exact S.f j a h
  · by_cases e : j = i
    · rw [e, put_same] at h; exact (h rfl).elim
    · rw [put_ne e] at h; rw [List.length_set]; exact S.w j h
  · by_cases e : j = i
    · rw [e, put_same] at h; cases h
    · rw [put_ne e] at h
      by_cases e2 : k = i
      · rw [e2, put_same]; simp
      · rw [put_ne e2]; exact S.d j k a hjk h
theorem RS.setNone (S : RS K F Hk H bp σ ρ) {i : Nat} (hb : ∀ q ∈ bp, q.1 ≠ i) : RS K F Hk H bp (σ.set i none) (ρ.set i none) := by
  obtain ⟨ow, s⟩ := S.ow
  exact ⟨by simp [S.len], S.ex, S.fr, S.frk, ⟨_, s.setNone⟩, fun q hq => by rw [List.getElem?_set_ne (Ne.symm (hb q hq))]; exact S.bor q hq⟩
theorem RS.wipe (S : RS K F Hk H bp σ ρ) : ∀ vs : List Nat, (∀ q ∈ bp, q.1 ∉ vs) → RS K F Hk H bp (L2.wipe σ vs) (wipeM ρ vs)
  | [], _ => S
  | v :: vs, hb => (RS.wipe S vs fun q hq z => hb q hq (List.mem_cons_of_mem _ z)).setNone fun q hq z => hb q hq (by rw [z]; simp)
theorem RS.back (S : RS K F Hk H bp (L2.wipe σ vs) (wipeM ρ' vs)) (S0 : ∀ i ∈ vs, ∀ x, ρ[i]? = some (some x) → ∃ v, σ[i]? = some (some v) ∧ RV K Hk x v) (hl : ρ.length = ρ'.length) (hl2 : σ.length = ρ.length) (hb : ∀ q ∈ bp, q.1 ∉ vs) : RS K F Hk H bp σ (backM ρ ρ' vs) := by
  have gb : ∀ (vs : List Nat) (r : Env) (j : Nat), r.length = ρ.length → (vs.foldl (fun r i => r.set i ((ρ[i]?).join)) r)[j]? = if j ∈ vs ∧ j < ρ.length then some ((ρ[j]?).join) else r[j]? := fun vs => by
    induction vs with
    | nil => intro r j _; simp
    | cons v vs ih =>
      intro r j hr
      rw [List.foldl_cons, ih _ j (by rw [List.length_set]; exact hr)]
      by_cases hm : j ∈ vs ∧ j < ρ.length
      · rw [if_pos hm, if_pos ⟨List.mem_cons_of_mem _ hm.1, hm.2⟩]
      · rw [if_neg hm]
        by_cases e : v = j
        · subst e
          by_cases hl : v < ρ.length
          · rw [List.getElem?_set_self (by rw [hr]; exact hl), if_pos ⟨by simp, hl⟩]
          · rw [if_neg (by intro h; exact hl h.2), List.getElem?_eq_none (by rw [List.length_set, hr]; omega), List.getElem?_eq_none (by omega)]
        · rw [List.getElem?_set_ne e, if_neg (fun h => hm ⟨(List.mem_cons.mp h.1).resolve_left (Ne.symm e), h.2⟩)]
  have gl : ∀ (vs : List Nat) (r : Env), (vs.foldl (fun r i => r.set i ((ρ[i]?).join)) r).length = r.length := fun vs => by
    induction vs with
    | nil => intro r; rfl
    | cons v vs ih => intro r; rw [List.foldl_cons, ih, List.length_set]
  obtain ⟨ow, s⟩ := S.ow
  have lb : (backM ρ ρ' vs).length = ρ.length := by unfold backM; rw [gl, ← hl]
  refine ⟨by rw [lb, hl2], S.ex, S.fr, S.frk, ⟨fun j => if j ∈ vs then [] else ow j, fun j y h => ?_, fun j a h => ?_, fun j h => ?_, fun j k a hjk h => ?_⟩, fun q hq => ?_⟩
  · unfold backM at h
    rw [gb vs ρ' j hl.symm] at h
    by_cases hm : j ∈ vs ∧ j < ρ.length
    · rw [if_pos hm] at h
      have e : ρ[j]? = some (some y) := by
        cases er : ρ[j]? with
        | none => rw [er] at h; cases h
        | some o => rw [er] at h; cases o with
          | none => cases h
          | some z => cases h; rfl
      obtain ⟨v, e1, r⟩ := S0 j hm.1 y e
      exact ⟨v, e1, by rw [if_pos hm.1]; exact r.ov⟩
    · rw [if_neg hm] at h
      have nj : j ∉ vs := fun z => hm ⟨z, by rw [hl]; exact lt_get h⟩
      obtain ⟨v, e1, o⟩ := s.s j y (by rw [wipeM_get, if_neg (fun z => nj z.1)]; exact h)
      rw [wipe_get, if_neg (fun z => nj z.1)] at e1
      exact ⟨v, e1, by rw [if_neg nj]; exact o⟩
  · by_cases e : j ∈ vs
    · rw [if_pos e] at h; cases h
    · rw [if_neg e] at h; exact s.f j a h
  · by_cases e : j ∈ vs
    · rw [if_pos e] at h; exact (h rfl).elim
    · rw [if_neg e] at h; have := s.w j h; rw [wipeM_len] at this; rw [lb, hl]; exact this
  · by_cases e : j ∈ vs
    · rw [if_pos e] at h; cases h
    · rw [if_neg e] at h
      by_cases e2 : k ∈ vs
      · rw [if_pos e2]; simp
      · rw [if_neg e2]; exact s.d j k a hjk h
  · have := S.bor q hq
    rw [wipe_get, if_neg (fun z => hb q hq z.1)] at this
    exact this
end
section
variable {X : Cx} {c : Ct}
theorem gs_rd {F Hk H : Hp} {bp : List (Nat × Addr)} {vs0 : List Nat} (hb : ∀ q ∈ bp, q.1 ∉ vs0) : ∀ (is : List Nat) (xs : List MV) (ws : List V) (σ : St) (ρ ρ' : Env) (Q : St → Hp → Prop), (∀ i ∈ is, i ∈ vs0) → RS c.K F Hk H bp σ ρ → RVs c.K Hk xs ws → setAll is xs ρ = some ρ' →
    (∀ σ', RS c.K F Hk H bp σ' ρ' → wipe σ' vs0 = wipe σ vs0 → Q σ' H) → gsOf is ws σ H Q
  | [], [], ws, σ, ρ, ρ', Q, _, S, r, e, k => by
    cases e
    exact ⟨RVs.nil.mp r, k σ S rfl⟩
  | [], x :: xs, ws, σ, ρ, ρ', Q, _, S, r, e, k => by cases e
  | i :: is, [], ws, σ, ρ, ρ', Q, _, S, r, e, k => by cases e
  | i :: is, x :: xs, ws, σ, ρ, ρ', Q, hi, S, r, e, k => by
    obtain ⟨v, us, rfl, r1, r2⟩ := RVs.cons.mp r
    unfold setAll at e
    split at e
    · rename_i hl
      have hm := hi i (by simp)
      refine ⟨v, us, rfl, ?_⟩
      refine gs_rd hb is xs us _ _ ρ' Q (fun j hj => hi j (List.mem_cons_of_mem _ hj)) (S.set hl r1 fun q hq z => hb q hq (z ▸ hm)) r2 e fun σ' S' w => k σ' S' (by rw [w, wipe_set hm])
    · cases e
theorem g_rd {F Hk H : Hp} {bp : List (Nat × Addr)} {vs0 : List Nat} (hb : ∀ q ∈ bp, q.1 ∉ vs0) {t : Tgt} {x : MV} {v : V} {σ : St} {ρ ρ' : Env} {Q : St → Hp → Prop} (hi : ∀ i ∈ t.slots, i ∈ vs0) (S : RS c.K F Hk H bp σ ρ) (r : RV c.K Hk x v) (e : setT t x ρ = some ρ')
    (k : ∀ σ', RS c.K F Hk H bp σ' ρ' → wipe σ' vs0 = wipe σ vs0 → Q σ' H) : gOf c.K t v σ H Q := by
  cases t with
  | nm i =>
    have e : (if i < ρ.length then some (ρ.set i (some x)) else none) = some ρ' := e
    split at e
    · rename_i hl
      cases e
      have hm := hi i (by simp [Tgt.slots])
      exact k _ (S.set hl r fun q hq z => hb q hq (z ▸ hm)) (wipe_set hm)
    · cases e
  | tp is =>
    cases x with
    | tup xs =>
      have e : (if xs.length = is.length then setAll is xs ρ else none) = some ρ' := e
      split at e
      · rename_i hl
        obtain ⟨a, ws, rfl, h1, s1⟩ := RV.tup.mp r
        exact ⟨a, ws, rfl, ex_t S.ex h1, by rw [s1.length, hl], gs_rd hb is xs ws σ ρ ρ' Q hi S s1 e k⟩
      · cases e
    | _ => cases e
  | tn is j =>
    unfold setT at e
    dsimp only at e
    split at e
    · rename_i xs y
      split at e
      · rename_i hl
        obtain ⟨a, ws, rfl, h1, s1⟩ := RV.tup.mp r
        obtain ⟨v1, w1, rfl, q1, s2⟩ := RVs.cons.mp s1
        obtain ⟨v2, w2, rfl, q2, s3⟩ := RVs.cons.mp s2
        rw [RVs.nil] at s3
        subst s3
        obtain ⟨b, us, rfl, h2, t1⟩ := RV.tup.mp q1
        obtain ⟨ρ1, e1, e2⟩ := Option.bind_eq_some_iff.mp e
        refine ⟨a, _, rfl, ex_t S.ex h1, rfl, ?_⟩
        refine ⟨.ref b, [v2], rfl, b, us, rfl, ex_t S.ex h2, by rw [t1.length, hl], gs_rd hb is xs us σ ρ ρ1 (fun σ' H' => gCons (gName j) gNil [v2] σ' H' Q) (fun i h => hi i (List.mem_append_left _ h)) S t1 e1 fun σ1 S1 z1 => ?_⟩
        split at e2
        · rename_i hj
          cases e2
          have hm := hi j (List.mem_append_right _ (List.mem_singleton.mpr rfl))
          exact ⟨v2, [], rfl, rfl, k _ (S1.set hj q2 fun q hq z => hb q hq (z ▸ hm)) (by rw [wipe_set hm, z1])⟩
        · cases e2
      · cases e
    · cases e
def Res.b0 {α β : Type} (r : Res (α × Env)) (f : α → Env → Res (β × Env)) : Res (β × Env) :=
  match r with
  | .ok (x, ρ) => f x ρ
  | _ => .stuck
def mLcLoop (g : Tgt) (t : MT) (e : ME) (vs : List Nat) : List MV → List MV → Env → Res (List MV × Env)
  | [], acc, ρ => .ok (acc, ρ)
  | x :: xs, acc, ρ => match setT g x (wipeM ρ vs) with
    | none => .stuck
    | some ρ1 => (t ρ1).b0 fun b ρ2 => if b then (e ρ2).b0 fun y ρ3 => (if acc.length < sizeLine ∧ ρ3.length = ρ.length then mLcLoop g t e vs xs (acc ++ [y]) ρ3 else .stuck) else if ρ2.length = ρ.length then mLcLoop g t e vs xs acc ρ2 else .stuck
def mYes : MT := fun ρ => .ok (true, ρ)
def mLcO (it : MI) (g : Tgt) (t : MT) (e : ME) (vs : List Nat) : ME := fun ρ => (it ρ).bind fun xs ρ1 => if perAt ρ1 vs then (mLcLoop g t e vs xs [] ρ1).b0 fun ys ρ2 => .ok (.own ys, backM ρ1 ρ2 vs) else .stuck
theorem b0E {F Hk H : Hp} {bp : List (Nat × Addr)} {σ : St} {ρ : Env} {β : Type} {P : Hp → Res (β × Env) → Prop} (st : ∀ Hk, ¬ P Hk .stuck) (mo : ∀ Hk Hk' r, Ex Hk Hk' → P Hk r → P Hk' r) {a : ME} {k : MV → Env → Res (β × Env)} (S : At c F Hk H bp σ ρ) (h : P Hk ((a ρ).b0 k)) :
    rdE c a σ H fun v H1 => ∃ Hk1 x ρ1, Ex Hk Hk1 ∧ At c F Hk1 H1 bp σ ρ1 ∧ RV c.K Hk1 x v ∧ P Hk1 (k x ρ1) := by
  refine ⟨F, Hk, bp, ρ, S, ?_⟩
  cases e : a ρ with
  | stuck => rw [e] at h; exact st _ h
  | exc x ρ' => rw [e] at h; exact (st _ h).elim
  | ok q =>
    rw [e] at h
    exact fun Hk1 H1 v x1 S1 r1 => ⟨Hk1, q.1, q.2, x1, ⟨S1, S.2⟩, r1, mo _ _ _ x1 h⟩
theorem b0T {F Hk H : Hp} {bp : List (Nat × Addr)} {σ : St} {ρ : Env} {β : Type} {P : Hp → Res (β × Env) → Prop} (st : ∀ Hk, ¬ P Hk .stuck) (mo : ∀ Hk Hk' r, Ex Hk Hk' → P Hk r → P Hk' r) {a : MT} {k : Bool → Env → Res (β × Env)} (S : At c F Hk H bp σ ρ) (h : P Hk ((a ρ).b0 k)) :
    rdT c a σ H fun b H1 => ∃ Hk1 ρ1, Ex Hk Hk1 ∧ At c F Hk1 H1 bp σ ρ1 ∧ P Hk1 (k b ρ1) := by
  refine ⟨F, Hk, bp, ρ, S, ?_⟩
  cases e : a ρ with
  | stuck => rw [e] at h; exact st _ h
  | exc x ρ' => rw [e] at h; exact (st _ h).elim
  | ok q =>
    rw [e] at h
    exact fun Hk1 H1 x1 S1 => ⟨Hk1, q.2, x1, ⟨S1, S.2⟩, mo _ _ _ x1 h⟩
def okB (c : Ct) (F Hk : Hp) (bp : List (Nat × Addr)) (σ : St) (Q : VK) (ρ0 : Env) (vs : List Nat) : Res (List MV × Env) → Prop
  | .ok (ys, ρ') => okO c F Hk bp σ Q (.ok (.own ys, backM ρ0 ρ' vs))
  | _ => False
theorem okB.mono {F Hk Hk' : Hp} {bp : List (Nat × Addr)} {σ : St} {Q : VK} {ρ0 : Env} {vs : List Nat} {r : Res (List MV × Env)} (x : Ex Hk Hk') (h : okB c F Hk bp σ Q ρ0 vs r) : okB c F Hk' bp σ Q ρ0 vs r := by
  cases r with
  | ok a => exact okO.mono (r := .ok (.own a.1, backM ρ0 a.2 vs)) x h
  | exc e ρ => exact h
  | stuck => exact h
theorem RS.inFr {K : PySem.W.Frag} {F Hk H : Hp} {bp : List (Nat × Addr)} {σ : St} {ρ : Env} {D : Addr} {xs : List V} (S : RS K F Hk H bp σ ρ) (h : H D = none) : RS K (upd F D (.lst xs)) Hk (upd H D (.lst xs)) bp σ ρ := by
  have S' := S.more (o := .lst xs) h
  obtain ⟨ow, s⟩ := S.ow
  refine ⟨S.len, S'.ex, S.fr.both h, fun a o ha => ?_, ⟨ow, fun i x hx => ?_, fun i a ha => ?_, s.w, s.d⟩, S.bor⟩
  · by_cases e : a = D
    · rw [e]; exact S.ex.back h
    · rw [upd_ne e] at ha; exact S.frk a o ha
  · obtain ⟨v, ev, o⟩ := s.s i x hx
    exact ⟨v, ev, o.move (Ex.refl _) fun a ha u hu => by rw [upd_ne (ne_of_none hu h)]; exact hu⟩
  · obtain ⟨g1, g2, o, g3⟩ := s.f i a ha
    have ne := ne_of_none g3 h
    exact ⟨g1, by rw [upd_ne ne]; exact g2, o, by rw [upd_ne ne]; exact g3⟩
theorem RS.grow {K : PySem.W.Frag} {F Hk H : Hp} {bp : List (Nat × Addr)} {σ : St} {ρ : Env} {D : Addr} {xs ys : List V} (S : RS K (upd F D (.lst xs)) Hk H bp σ ρ) : RS K (upd F D (.lst ys)) Hk (upd H D (.lst ys)) bp σ ρ := by
  have hk : Hk D = none := S.frk D _ upd_same
  obtain ⟨ow, s⟩ := S.ow
  have nd : ∀ i a, a ∈ ow i → a ≠ D := fun i a ha e => by
    have := (s.f i a ha).2.1
    rw [e, upd_same] at this
    cases this
  refine ⟨S.len, S.ex.mut hk, fun a o ha => ?_, fun a o ha => ?_, ⟨ow, fun i x hx => ?_, fun i a ha => ?_, s.w, s.d⟩, S.bor⟩
  · by_cases e : a = D
    · subst e; rw [upd_same] at ha ⊢; exact ha
    · rw [upd_ne e] at ha ⊢; exact S.fr a o (by rw [upd_ne e]; exact ha)
  · by_cases e : a = D
    · rw [e]; exact hk
    · rw [upd_ne e] at ha; exact S.frk a o (by rw [upd_ne e]; exact ha)
  · obtain ⟨v, ev, o⟩ := s.s i x hx
    exact ⟨v, ev, o.move (Ex.refl _) fun a ha u hu => by rw [upd_ne (nd i a ha)]; exact hu⟩
  · obtain ⟨g1, g2, o, g3⟩ := s.f i a ha
    exact ⟨g1, by have := nd i a ha; rw [upd_ne this] at g2 ⊢; exact g2, o, by rw [upd_ne (nd i a ha)]; exact g3⟩
theorem RS.outFr {K : PySem.W.Frag} {F Hk H : Hp} {bp : List (Nat × Addr)} {σ : St} {ρ : Env} {D : Addr} {vs : List V} {xs : List MV} (S : RS K (upd F D (.lst vs)) Hk H bp σ ρ) (hF : F D = none) (r : RVs K Hk xs vs) : RS K F Hk H bp (σ ++ [some (.ref D)]) (ρ ++ [some (.own xs)]) := by
  have hk : Hk D = none := S.frk D _ upd_same
  have hH : H D = some (.lst vs) := S.fr D _ upd_same
  have up : ∀ a o, F a = some o → upd F D (.lst vs) a = some o := fun a o ha => by rw [upd_ne (ne_of_none ha hF)]; exact ha
  obtain ⟨ow, s⟩ := S.ow
  have nd : ∀ i a, a ∈ ow i → a ≠ D := fun i a ha e => by
    have := (s.f i a ha).2.1
    rw [e, upd_same] at this
    cases this
  have s' : SL K F Hk H ow σ ρ := ⟨s.s, fun i a ha => by
    obtain ⟨g1, g2, g3⟩ := s.f i a ha
    exact ⟨g1, by rw [upd_ne (nd i a ha)] at g2; exact g2, g3⟩, s.w, s.d⟩
  refine ⟨by simp [S.len], S.ex, fun a o ha => S.fr a o (up a o ha), fun a o ha => S.frk a o (up a o ha), ⟨_, s'.push S.len (A := [D]) (OV.own.mpr ⟨D, vs, rfl, rfl, hH, r⟩) (fun a ha => ?_) (fun i a ha hi => ?_)⟩, S.bor_app _⟩
  · simp at ha; subst ha; exact ⟨hk, hF⟩
  · simp at ha; subst ha; exact nd i a hi rfl
theorem rd_lc {it : MI} {g : Tgt} {t : MT} {e : ME} {vs : List Nat} {σ : St} {H : Hp} {Q : VK} (hg : ∀ i ∈ g.slots, i ∈ vs) (hbs : ∀ i ∈ vs, c.bs.contains i = false) (h : rdO c (mLcO it g t e vs) σ H Q) : tLc (rdI c it) (gOf c.K g) (rdT c t) (rdE c e) vs σ H Q := by
  obtain ⟨F, Hk, bp, ρ, S, h⟩ := h
  have hb : ∀ q ∈ bp, q.1 ∉ vs := fun q hq z => nb S.2.1 (hbs _ z) q hq rfl
  refine ⟨F, Hk, bp, ρ, S, ?_⟩
  have h : okO c F Hk bp σ Q ((it ρ).bind fun xs ρ1 => if perAt ρ1 vs then (mLcLoop g t e vs xs [] ρ1).b0 fun ys ρ2 => .ok (.own ys, backM ρ1 ρ2 vs) else .stuck) := h
  cases ei : it ρ with
  | stuck => rw [ei] at h; exact h
  | exc x ρ' => rw [ei] at h; exact h
  | ok p =>
    obtain ⟨xs, ρ1⟩ := p
    rw [ei] at h
    intro Hk1 H1 J x1 S1 wk D hD
    have h : okO c F Hk1 bp σ Q (if perAt ρ1 vs then (mLcLoop g t e vs xs [] ρ1).b0 fun ys ρ2 => .ok (.own ys, backM ρ1 ρ2 vs) else .stuck) := okO.mono x1 h
    split at h
    · rename_i hper
      have h : okB c F Hk1 bp σ Q ρ1 vs (mLcLoop g t e vs xs [] ρ1) := by
        cases e2 : mLcLoop g t e vs xs [] ρ1 with
        | ok q => rw [e2] at h; exact h
        | exc x r => rw [e2] at h; exact h
        | stuck => rw [e2] at h; exact h
      have fD : F D = none := by
        cases e : F D with
        | none => rfl
        | some o => have := S1.fr D o e; rw [hD] at this; cases this
      have p0 : ∀ i ∈ vs, ∀ x, ρ1[i]? = some (some x) → ∃ v, σ[i]? = some (some v) ∧ RV c.K Hk1 x v := fun i hi x hx => by
        have z := List.all_eq_true.mp hper i hi
        rw [hx] at z
        exact S1.get hx z
      refine ⟨fun i m H' => m = xs.length - i ∧ i ≤ xs.length ∧ ∃ Hk' ρ' acc ws, Ex Hk1 Hk' ∧ RS c.K (upd F D (.lst ws)) Hk' H' bp (wipe σ vs) (wipeM ρ' vs) ∧ RVs c.K Hk' acc ws ∧ ρ'.length = ρ1.length ∧ okB c F Hk' bp σ Q ρ1 vs (mLcLoop g t e vs (xs.drop i) acc ρ'),
        ⟨xs.length, by simp, Nat.zero_le _, Hk1, ρ1, [], [], Ex.refl _, (S1.wipe vs hb).inFr hD, RVs.nil.mpr rfl, rfl, h⟩, ?_⟩
      rintro i m H' ⟨rfl, hi, Hk', ρ', acc, ws, x', S', ra, hl, h'⟩
      by_cases hlt : i < xs.length
      · refine .inr ⟨wk.go i H' (x'.trans S'.ex) hlt, fun H2 => ∃ Hk2 ρ2 acc2 ws2, Ex Hk1 Hk2 ∧ RS c.K (upd F D (.lst ws2)) Hk2 H2 bp (wipe σ vs) (wipeM ρ2 vs) ∧ RVs c.K Hk2 acc2 ws2 ∧ ρ2.length = ρ1.length ∧ okB c F Hk2 bp σ Q ρ1 vs (mLcLoop g t e vs (xs.drop (i + 1)) acc2 ρ2),
          fun H2 z => ⟨xs.length - (i + 1), by omega, rfl, hlt, z⟩, fun x H2 y => ?_⟩
        obtain ⟨z, ez, hz⟩ := wk.yld i H' x H2 (x'.trans S'.ex) hlt y
        have ed : xs.drop i = z :: xs.drop (i + 1) := by
          rw [List.drop_eq_getElem_cons hlt]
          rw [List.getElem?_eq_getElem hlt] at ez
          cases ez; rfl
        rw [ed] at h'
        have st : ∀ Hk, ¬ okB c F Hk bp σ Q ρ1 vs .stuck := fun _ f => f
        have mo : ∀ Hk Hk' r, Ex Hk Hk' → okB c F Hk bp σ Q ρ1 vs r → okB c F Hk' bp σ Q ρ1 vs r := fun _ _ _ x h => okB.mono x h
        have fin : ∀ Hk3, Ex Hk' Hk3 → RS c.K (upd F D (.lst ws)) Hk3 H2 bp (wipe σ vs) (wipeM ρ' vs) → RV c.K Hk3 z x →
            gOf c.K g x (wipe σ vs) H2 fun σ2 H2 => wipe σ2 vs = wipe σ vs ∧ rdT c t σ2 H2 fun b H3 => if b = true then rdE c e σ2 H3 fun y H4 => ∃ acc, H4 D = some (.lst acc) ∧ acc.length < sizeLine ∧
              (∃ Hk2 ρ2 acc2 ws2, Ex Hk1 Hk2 ∧ RS c.K (upd F D (.lst ws2)) Hk2 (upd H4 D (.lst (acc ++ [y]))) bp (wipe σ vs) (wipeM ρ2 vs) ∧ RVs c.K Hk2 acc2 ws2 ∧ ρ2.length = ρ1.length ∧ okB c F Hk2 bp σ Q ρ1 vs (mLcLoop g t e vs (xs.drop (i + 1)) acc2 ρ2)) else
              ∃ Hk2 ρ2 acc2 ws2, Ex Hk1 Hk2 ∧ RS c.K (upd F D (.lst ws2)) Hk2 H3 bp (wipe σ vs) (wipeM ρ2 vs) ∧ RVs c.K Hk2 acc2 ws2 ∧ ρ2.length = ρ1.length ∧ okB c F Hk2 bp σ Q ρ1 vs (mLcLoop g t e vs (xs.drop (i + 1)) acc2 ρ2) := fun Hk3 x3 S3 r3 => by
          have h' := okB.mono x3 h'
          unfold mLcLoop at h'
          cases eg : setT g z (wipeM ρ' vs) with
          | none => rw [eg] at h'; exact h'.elim
          | some ρ3 =>
            rw [eg] at h'
            refine g_rd hb hg S3 r3 eg fun σ2 S4 w2 => ⟨by rw [w2, wipe_wipe], ?_⟩
            have w2' : wipe σ2 vs = wipe σ vs := by rw [w2, wipe_wipe]
            refine rdTw (b0T st mo ⟨S4, S.2.1, c.Jm _ _ _ (Ex.new fD) S.2.2⟩ h') fun b H3 ⟨Hk4, ρ4, x4, S5, h5⟩ => ?_
            cases b with
            | true =>
              rw [if_pos rfl] at h5 ⊢
              refine rdw (b0E st mo S5 h5) fun y H4 ⟨Hk5, yy, ρ5, x5, S6, r6, h6⟩ => ?_
              split at h6
              · rename_i hz
                have ra' := ra.mono (x3.trans (x4.trans x5))
                refine ⟨ws, S6.1.fr D _ upd_same, by rw [ra'.length]; exact hz.1, Hk5, ρ5, acc ++ [yy], ws ++ [y], x'.trans (x3.trans (x4.trans x5)), ?_, ra'.append (RVs.cons.mpr ⟨y, [], rfl, r6, RVs.nil.mpr rfl⟩), by rw [hz.2, hl], h6⟩
                have := (S6.1.wipe vs hb)
                rw [w2'] at this
                exact this.grow
              · exact h6.elim
            | false =>
              rw [if_neg (by decide)] at h5 ⊢
              split at h5
              · rename_i hz
                refine ⟨Hk4, ρ4, acc, ws, x'.trans (x3.trans x4), ?_, ra.mono (x3.trans x4), by rw [hz, hl], h5⟩
                have := (S5.1.wipe vs hb)
                rw [w2'] at this
                exact this
              · exact h5.elim
        rcases hz with ⟨rfl, r⟩ | ⟨p, us, ys, hp, rfl, rfl, rfl, r⟩
        · exact fin Hk' (Ex.refl _) S' (RV.mono x' _ _ r)
        · have xn := Ex.new (o := .tup us) (S'.ex.back hp)
          exact fin _ xn (S'.new hp) (RV.tup.mpr ⟨p, us, rfl, SqT.of upd_same, r.mono (x'.trans xn)⟩)
      · have e : i = xs.length := by omega
        subst e
        rw [List.drop_length] at h'
        refine .inl ⟨wk.stop H' (x'.trans S'.ex), ?_⟩
        have out := S'.outFr fD ra
        have bk : RS c.K (upd F D (.lst ws)) Hk' H' bp σ (backM ρ1 ρ' vs) := RS.back S' (fun i hi x hx => by
          obtain ⟨v, ev, rv⟩ := p0 i hi x hx
          exact ⟨v, ev, RV.mono x' _ _ rv⟩) hl.symm S1.len hb
        exact h' _ _ _ (Ex.refl _) (bk.outFr fD ra)
    · exact h.elim
end
end Tm
set_option Elab.async false
set_option linter.all false
set_option maxRecDepth 100000
set_option maxHeartbeats 2000000
namespace Tm
open PySem L2
theorem hbs_of {bs vs : List Nat} (h : (vs.all fun v => !bs.contains v) = true) : ∀ i ∈ vs, bs.contains i = false := fun i hi => by
  have := List.all_eq_true.mp h i hi
  simpa using this
open Evl (Ex ex_rd ex_l ex_t)
section
variable {X : Cx} {c : Ct} {elt tg iter : Expr} {ifs : List Expr} {scope : Scope} {own : List (Str × Nat)} {pos : Pos} {it : MI} {g : Tgt} {t : MT} {e : ME}
theorem mts_nil : PTs X [] (rdT c mYes) := ⟨fun pins s σ H Q I ⟨F, Hk, bp, ρ, S, h⟩ => pts_nil.run pins s σ H Q I (h _ _ (Ex.refl _) S.1)⟩
theorem mts_one {a : Expr} (h : PT X a (rdT c t)) : PTs X [a] (rdT c t) := pts_one h
theorem mo_lc (hc : X.calm = true) (hN : X.N.Nodup) (hi : PI X tg iter (rdI c it)) (ok : BlkOk X.N X.env.scope scope own) (hg : ∀ (s : Shared) (H : Hp) (C : Addr) (cl : List (Str × Addr)) (fp : List Addr), PG (X.blk s H scope (compEnvC scope cl C X.env) fp) tg (gOf X.K g))
    (ht : ∀ (s : Shared) (H : Hp) (C : Addr) (cl : List (Str × Addr)) (fp : List Addr), PTs (X.blk s H scope (compEnvC scope cl C X.env) fp) ifs (rdT c t)) (he : ∀ (s : Shared) (H : Hp) (C : Addr) (cl : List (Str × Addr)) (fp : List Addr), PE (X.blk s H scope (compEnvC scope cl C X.env) fp) elt (rdE c e))
    (hgs : ∀ i ∈ g.slots, i ∈ own.map (·.2) := by decide) (hbs : ∀ i ∈ own.map (·.2), c.bs.contains i = false := by decide) (hK : c.K = X.K := by rfl) (hs : ∀ x, foldedSetIterable iter X.env x = pure x := by intro _; rfl) :
    PE X (.ListComp elt [⟨tg, iter, ifs, 0⟩] scope pos) (rdO c (mLcO it g t e (own.map (·.2)))) := PEw (pe_lc hc hN hi ok hg ht he hs) fun σ H Q h => by rw [← hK]; exact rd_lc hgs hbs h
theorem ms_setLc {i : Nat} {y : Str} {py spos : Pos} (hc : X.calm = true) (hN : X.N.Nodup) (hy : X.N[i]? = some y) (hyl : X.env.scope.names.lookup y = some .local) (hsw : swapsWith (.ListComp elt [⟨tg, iter, ifs, 0⟩] scope pos) (some (.Name y py)) spos.line X.env = pure true)
    (hi : PI X tg iter (rdI c it)) (ok : BlkOk X.N X.env.scope scope own) (hg : ∀ (s : Shared) (H : Hp) (C : Addr) (cl : List (Str × Addr)) (fp : List Addr), PG (X.blk s H scope (compEnvC scope cl C X.env) fp) tg (gOf X.K g))
    (ht : ∀ (s : Shared) (H : Hp) (C : Addr) (cl : List (Str × Addr)) (fp : List Addr), PTs (X.blk s H scope (compEnvC scope cl C X.env) fp) ifs (rdT c t)) (he : ∀ (s : Shared) (H : Hp) (C : Addr) (cl : List (Str × Addr)) (fp : List Addr), PE (X.blk s H scope (compEnvC scope cl C X.env) fp) elt (rdE c e))
    (hb : c.bs.contains i = false := by rfl) (hgs : ∀ i ∈ g.slots, i ∈ own.map (·.2) := by decide) (hbs : ∀ i ∈ own.map (·.2), c.bs.contains i = false := by decide) (hK : c.K = X.K := by rfl) (hs : ∀ x, foldedSetIterable iter X.env x = pure x := by intro _; rfl) :
    PS X (.Assign [.Name y py] (.ListComp elt [⟨tg, iter, ifs, 0⟩] scope pos) spos) (rdS c (mSetO i (mLcO it g t e (own.map (·.2))))) := PSw (ps_setLc hc hN hy hyl hsw hi ok hg ht he hs) fun D σ H h => by
    obtain ⟨F, Hk, bp, ρ, S, h⟩ := rd_setO hb h
    rw [← hK]
    exact rd_lc hgs hbs ⟨F, Hk, bp, ρ, S, h⟩
end
theorem only_rs {K : PySem.W.Frag} {H : Hp} {a : Addr} {ns : List Int} (h : SqL K H a (ns.map V.int)) : RS K (fun _ => none) H H [] ([V.ref a].map some) ([MV.scr ns].map some) :=
  RS.args (Ex.refl _) (fun _ _ z => nomatch z) (fun _ _ z => nomatch z) (RVs.cons.mpr ⟨_, [], rfl, RV.scr.mpr ⟨a, rfl, h⟩, RVs.nil.mpr rfl⟩)
theorem walk_law {l : PySem.W.OpenLaw} {k : Nat} {q : Program} {loose : List Str} {XP : (Str → Option Value) → Heap → Prop} {YP : World → Heap → Prop} {d : DefRec} {K : Params → PySem.W.Frag} {x : Str} {f : MF}
    (hn : l.most = some 63) (hdf : d.params.defaults = []) (hr : Room k callerA) (hY : ∀ (w : World) (h : Heap), YP w h → (K w.params).In h)
    (hf : ∀ ns : List Int, ns.length ≤ 63 → ∃ bs, f [.scr ns] = .ok (.bl true, bs))
    (F : ∀ (w : World) (mg : Str → Option Value) (fa : Addr) (h : Heap), (K w.params).In h → h.Ns mainGlobals mg → mg d.name = some (.ref fa) →
      ∃ fd : FuncData, (∀ (s : Shared) (u : Value), BindsTo s fd ⟨[u], []⟩ [(x, u)]) ∧
        ∀ base : Heap, (K w.params).In base → base.Ns mainGlobals mg → FnOk l.prog w (K w.params) mg base (L2N.CX l.prog w) k fa fd [x] (spF (K w.params) mg 1 [] f)) :
    PySem.W.WalkO q loose XP YP l.row.toRowW d [] (fun f vs => PySem.call f vs) := by
  refine L2.walk_of (x := x) (K := K) (CX := fun w => L2N.CX l.prog w) (sp := fun w vs H Q E => ∃ (a : Addr) (ns : List Int), vs = [.ref a] ∧ ns.length ≤ 63 ∧ SqL (K w.params) H a (ns.map V.int) ∧ ∀ H', Q (.bl true) H') hn (by rw [sizeLine_eq]; decide) hdf hr hY (fun w mg fa h KX G hmg => ?_) (fun w H a ns hl _ hS => ⟨a, ns, rfl, hl, hS, fun _ => rfl⟩) ?_
  · obtain ⟨fd, hb, hF⟩ := F w mg fa h KX G hmg
    refine ⟨fd, hb, fun base h1 h2 => (hF base h1 h2).imp ?_⟩
    rintro vs H Q E ⟨a, ns, rfl, hl, hS, q⟩
    obtain ⟨bs, e⟩ := hf ns hl
    refine ⟨rfl, fun _ => none, H, [], [.scr ns], only_rs hS, rfl, ?_⟩
    rw [e]
    intro Hk' H' w x S'
    have bl : bs.length = 0 := by have := S'.len; simpa using this.symm
    have be : bs = [] := List.eq_nil_of_length_eq_zero bl
    subst be
    obtain ⟨v, ev, rv⟩ := S'.get (i := 0) (x := .bl true) rfl rfl
    cases ev
    rw [RV.bl.mp rv]
    exact q _
  · rintro w H s e s' ⟨_, _, _, _, _, _, _, _, _, _, _, _, f⟩
    exact f
structure Fd (P : Program) (w : World) (K : PySem.W.Frag) (mg : Str → Option Value) (base : Heap) (x : Str) (k : Nat) (ps : List Str) (bs : List Nat) (f : MF) : Prop where
  ex : ∃ (a : Addr) (fd : FuncData), FnOk P w K mg base (L2N.CX P w) k a fd ps (spF K mg ps.length bs f) ∧ mg x = some (.ref a) ∧ PySem.W.keepIn K (.ref a) = true ∧ Binds K fd ps []
structure Bn (mg : Str → Option Value) : Prop where
  len : mg "len" = none
  range : mg "range" = none
  abs : mg "abs" = none
  max : mg "max" = none
  min : mg "min" = none
  int : mg "int" = none
  str : mg "str" = none
  tuple : mg "tuple" = none
  list : mg "list" = none
  all : mg "all" = none
  any : mg "any" = none
  isinstance : mg "isinstance" = none
  divmod : mg "divmod" = none
  sum : mg "sum" = none
  zip : mg "zip" = none
  enumerate : mg "enumerate" = none
  reversed : mg "reversed" = none
  sorted : mg "sorted" = none
  dict : mg "dict" = none
  set : mg "set" = none
  bool : mg "bool" = none
section
variable {X : Cx} {c : Ct} {k : Nat} {ps : List Str} {x : Str} {p pos : Pos} {e : Expr} {es : List Expr} {f : MF} {a : MA} {j : Nat}
theorem mf_call (G : Fd X.prog X.w X.K X.mg X.base x k ps [] f) (hr : Room j X.A) (hj : k ≤ j) (tk : L2N.Takes X c.W) (ha : PA X (e :: es) (rdA c a)) (hn : Lng a ps.length) (hg : Gl X x := by rfl) (hK : c.K = X.K := by rfl) (hM : c.mg = X.mg := by rfl) (hdb : (x == ("__debug__" : Str)) = false := by decide)
    (he : starEach (e :: es) X.env = (false, eval e X.env) :: starEach es X.env := by rfl) (hpl : (backTo pos (starEach es X.env)).any (·.1) = false := by rfl) : PE X (.Call (.Name x p) (e :: es) [] pos) (rdO c (mCall f a)) := by
  obtain ⟨fa, fd, F, hm, hk, hb⟩ := G.ex
  exact mo_call F (hr.mono hj) hm hk hb tk ha hn hg hK hM hdb he hpl
theorem mf_call0 (G : Fd X.prog X.w X.K X.mg X.base x k ps [] f) (hr : Room j X.A) (hj : k ≤ j) (ha : PA X (e :: es) (rdA c a)) (hn : Lng a ps.length) (hg : Gl X x := by rfl) (hK : c.K = X.K := by rfl) (hM : c.mg = X.mg := by rfl) (hdb : (x == ("__debug__" : Str)) = false := by decide)
    (he : starEach (e :: es) X.env = (false, eval e X.env) :: starEach es X.env := by rfl) (hpl : (backTo pos (starEach es X.env)).any (·.1) = false := by rfl) : PE X (.Call (.Name x p) (e :: es) [] pos) (rdO c (mCall0 f a)) := by
  obtain ⟨fa, fd, F, hm, hk, hb⟩ := G.ex
  exact mo_call0 F (hr.mono hj) hm hk hb ha hn hg hK hM hdb he hpl
end
end Tm
set_option Elab.async false
set_option linter.all false
set_option maxRecDepth 100000
set_option maxHeartbeats 2000000
namespace Tm
open PySem L2
open Evl (Ex ex_rd ex_l ex_t)
def Cst (K : PySem.W.Frag) (mg : Str → Option Value) (x : Str) (v : MV) : Prop := ∃ w u, mg x = some u ∧ RelV w u ∧ ∀ H, RV K H v w
section
variable {X : Cx} {c : Ct} {x : Str} {pos : Pos}
theorem mf_con {v : MV} (h : Cst X.K X.mg x v) (hg : Gl X x := by rfl) (hK : c.K = X.K := by rfl) (hd : (x == ("__debug__" : Str)) = false := by decide) : PE X (.Name x pos) (rdE c (mC v)) := by
  obtain ⟨w, u, hm, rv, r⟩ := h
  exact me_glob hm rv (by rw [hK]; exact r) hg hd
end
theorem cst_int {K : PySem.W.Frag} {mg : Str → Option Value} {x : Str} {i : Int} {t : Tok} (h : mg x = some (.int i t)) : Cst K mg x (.int i) := ⟨.int i, _, h, ⟨t, rfl⟩, fun _ => RV.int.mpr rfl⟩
def flatIs : MV → Value → Bool
  | .int i, .int j _ => i == j
  | .str i, .str j _ => i == j
  | .non, .none => true
  | .bl a, .bool b => a == b
  | _, _ => false
end Tm
set_option Elab.async false
set_option linter.all false
set_option maxRecDepth 100000
set_option maxHeartbeats 2000000
namespace Tm
open PySem L2
open Evl (Ex ex_rd ex_l ex_t)
theorem blkOk_at {N N' : List Str} {sc sc' bs : Scope} {own : List (Str × Nat)} (hN : N = N') (hs : sc = sc') (h : blkC N' sc' bs own = true) : BlkOk N sc bs own := by
  subst hN hs
  exact blkOk_by h
def mfOff : MF := fun _ => .stuck
def mRec (n : Nat) (bs : List Nat) (m : MF → MS) : Nat → MF
  | 0 => mfOff
  | k + 1 => mFn n bs (m (mRec n bs m k))
section
variable {P : Program} {w : World} {K : PySem.W.Frag} {mg : Str → Option Value} {base : Heap}
theorem spF_off {np : Nat} {bs : List Nat} {vs : List V} {H : Hp} {Q : VK} {E : XK} (h : spF K mg np bs mfOff vs H Q E) : False := by
  obtain ⟨_, _, _, _, _, _, _, h⟩ := h
  exact h
theorem fn_off {k : Nat} {f : Addr} {fd : FuncData} {ps : List Str} {np : Nat} {bs : List Nat} : FnOk P w K mg base (L2N.CX P w) k f fd ps (spF K mg np bs mfOff) :=
  ⟨fun _ _ _ _ h => (spF_off h).elim, fun _ _ _ _ _ _ _ _ _ _ _ _ _ h => (spF_off h).elim⟩
end
end Tm
set_option Elab.async false
set_option linter.all false
set_option maxRecDepth 100000
set_option maxHeartbeats 2000000
namespace HT
open PySem PySem.Spec PyProof.Rows
section
variable {prog : Program} {w : World} {A : Around} {E : Value → Shared → Prop} {s : Shared}
theorem fm_congr {α β : Type} {f g : α → Option β} : ∀ l : List α, (∀ x ∈ l, f x = g x) → l.filterMap f = l.filterMap g
  | [], _ => rfl
  | x :: l, h => by
    rw [List.filterMap_cons, List.filterMap_cons, h x (List.mem_cons_self ..), fm_congr l fun y hy => h y (List.mem_cons_of_mem _ hy)]
theorem rev_pick (xs : Array Value) : ((List.range xs.size).filterMap fun (m : Nat) => xs[(((xs.size : Int) - 1) + (m : Int) * (-1)).toNat]?).toArray = xs.toList.reverse.toArray := by
  have e : ((List.range xs.size).filterMap fun (m : Nat) => xs[(((xs.size : Int) - 1) + (m : Int) * (-1)).toNat]?) = ((List.range xs.size).map fun k => xs.size - 1 - k).filterMap (xs[·]?) := by
    rw [List.filterMap_map]
    refine fm_congr _ fun k hk => ?_
    have := List.mem_range.mp hk
    have e2 : (((xs.size : Int) - 1) + (k : Int) * (-1)).toNat = xs.size - 1 - k := by omega
    rw [e2]
    rfl
  rw [e, PySem.W.krv_range, List.filterMap_reverse, PySem.W.krv_all]
theorem sliceApplied_rev {sl : Addr} {vs : Value} {n : Nat} {Q : Int × Int × Nat → Shared → Prop} (hs : s.heap.IsSliceOf sl .none .none vs) (ps : IsPart vs (some (-1)))
    (h : Q ((n : Int) - 1, -1, n) s) : wpAny (model prog w) A (Builtin.Slice.sliceApplied (.ref sl) (pure (n : Int))) Q E s := by
  obtain ⟨os, hos, hcs, hds⟩ := id hs
  unfold Builtin.Slice.sliceApplied Builtin.Slice.sliceFields
  refine wpAny_bind (wpAny_bind (wpAny_field hos hds (x := .none) rfl (wpAny_bind (wpAny_field hos hds (x := .none) rfl (wpAny_bind (wpAny_field hos hds (x := vs) rfl (wpAny_pure ?_)))))))
  refine wpAny_bind (slicePart_ ps ?_)
  show wpAny _ _ (if ((-1 : Int) == 0) = true then _ else _) _ _ s
  rw [if_neg (by decide)]
  refine wpAny_bind (slicePart_none (wpAny_bind (slicePart_none (wpAny_bind (wpAny_pure ?_)))))
  show wpAny _ _ (match Builtin.Slice.sliceAdjust none none (-1) (n : Int) with | (lo, hi) => pure (lo, (-1 : Int), Builtin.Slice.slicePlaces lo hi (-1))) _ _ s
  have e : Builtin.Slice.sliceAdjust none none (-1) (n : Int) = ((n : Int) - 1, -1) := by
    simp [Builtin.Slice.sliceAdjust]
  rw [e]
  have e2 : Builtin.Slice.slicePlaces ((n : Int) - 1) (-1) (-1) = n := by
    unfold Builtin.Slice.slicePlaces
    simp
    omega
  show wpAny _ _ (pure ((n : Int) - 1, (-1 : Int), Builtin.Slice.slicePlaces ((n : Int) - 1) (-1) (-1))) _ _ s
  rw [e2]
  exact wpAny_pure h
theorem getItem_tuple_rev {t sl : Addr} {items : Array Value} {vs : Value} {Q : Value → Shared → Prop} (ht : IsTup s.heap t items) (hs : s.heap.IsSliceOf sl .none .none vs) (ps : IsPart vs (some (-1)))
    (h : Q (.ref s.heap.objs.size) { s with heap := s.heap.push { cls := .type "tuple", data := .seq items.toList.reverse.toArray } })
    (hsz : items.size ≤ sizeLine) : wpAny (model prog w) A (getItem (.ref t) (.ref sl)) Q E s := by
  have htake : sizeOk (.seq items.toList.reverse.toArray) := by
    show items.toList.reverse.toArray.size ≤ sizeLine
    rw [List.size_toArray, List.length_reverse, Array.length_toList]
    exact hsz
  obtain ⟨os, hos, hcs, hds⟩ := id hs
  have hTs : s.TypeIs (.ref sl) "slice" := ⟨os, hos, hcs⟩
  unfold getItem
  try with_reducible refine wpAny_holding ?_
  first | refine wpAny_bind (wpAny_pure ?_) | skip
  refine wpAny_bind (wpAny_sequenceKey ht.typeIs (by decide) ?_)
  refine wpAny_bind (wpAny_callSpecial?_slot (name := Str.ofString "__getitem__") ht.typeIs PyProof.Rows.slot_tuple_getitem
    (wpAny_call_entry PyProof.Rows.slot_tuple_getitem ht.typeIs entry_tuple_getitem ?_ (args_tuple_getitem _ _)))
  show wpAny _ _ (Builtin.Tuple.tupleItemsOf (.ref t) >>= _) _ _ s
  refine wpAny_bind (tupleItemsOf_ ht ?_)
  refine wpAny_bind (wpAny_typeOf hTs ?_)
  rw [if_pos (by decide)]
  refine wpAny_bind (sliceApplied_rev hs ps ?_)
  have hno : ¬ ((((items.size : Int) - 1) == 0 && (-1 : Int) == 1 && items.size == items.size) = true) := by simp
  show wpAny _ _ (if (((items.size : Int) - 1) == 0 && (-1 : Int) == 1 && items.size == items.size) = true then _ else _) _ _ s
  rw [if_neg hno, rev_pick]
  first
    | exact wpAny_bind (m := Builtin.Tuple.tupleExact _) (wpAny_newObj_type (wpAny_pure ⟨_, rfl, wpAny_pure h⟩) htake)
    | exact wpAny_bind (m := Builtin.Tuple.tupleExact _) (wpAny_newObj_type (wpAny_bind (wpAny_pure (wpAny_pure ⟨_, rfl, wpAny_pure h⟩))) htake)
    | exact wpAny_bind (wpAny_bind (m := Builtin.Tuple.tupleExact _) (wpAny_newObj_type (wpAny_pure (wpAny_pure ⟨_, rfl, wpAny_pure h⟩)) htake))
    | exact wpAny_bind (wpAny_bind (m := Builtin.Tuple.tupleExact _) (wpAny_newObj_type (wpAny_pure ⟨_, rfl, wpAny_pure h⟩) htake))
end
end HT
namespace Tm
open PySem L2 PySem.Spec PyProof.Rows
open Evl (Ex ex_rd ex_l ex_t)
def tRevT (K : PySem.W.Frag) (te : TE) : TE := fun σ H Q => te σ H fun x H1 => ∃ a xs, x = .ref a ∧ ((SqL K H1 a xs ∧ ∀ p, H1 p = none → Q (.ref p) (upd H1 p (.lst xs.reverse))) ∨ (SqT K H1 a xs ∧ ∀ p, H1 p = none → Q (.ref p) (upd H1 p (.tup xs.reverse))))
theorem pe_revT {X : Cx} {e : Expr} {te : TE} {k : Nat} {p1 p2 p3 pos : Pos} (he : PE X e te) : PE X (.Subscript e (.Slice none none (some (.UnaryOp .USub (.Constant (.int 1) k p1) p2)) p3) pos) (tRevT X.K te) := by
  refine ⟨fun pins s σ H Q I h => ?_⟩
  refine Subscript_ (thn (he.run pins s σ H _ I h) fun v s1 ⟨x, H1, I1, r1, q1⟩ => ?_)
  obtain ⟨a, xs, ex, hx⟩ := q1
  subst ex
  cases r1
  have hst : PO X (some (.UnaryOp .USub (.Constant (.int 1) k p1) p2)) (tPart (tUn (rU fun i => .int (-i)) (tC (.int 1)))) := po_some (pe_un un_neg pe_int)
  refine wpAny_Slice (thn (po_none.run pins s1 σ H1 (fun o H2 => o = none ∧ H2 = H1) I1 ⟨rfl, rfl⟩) fun vl s2 ⟨l, H2, I2, pl, el, e2⟩ => ?_)
  subst el e2
  refine thn (po_none.run pins s2 σ H2 (fun o H3 => o = none ∧ H3 = H2) I2 ⟨rfl, rfl⟩) fun vu s3 ⟨u, H3, I3, pu, eu, e3⟩ => ?_
  subst eu e3
  refine thn (hst.run pins s3 σ H3 (fun o H4 => o = some (-1) ∧ H4 = H3) I3 ⟨1, rfl, -1, rfl, rfl, rfl⟩) fun vs s4 ⟨o, H4, I4, ps, eo, e4⟩ => ?_
  subst eo e4
  cases pl
  cases pu
  have I5 : Inv X pins σ H4 { s4 with heap := s4.heap.push { cls := .type "slice", data := .fields #[.none, .none, vs] } } := I4.kept (t' := s4.toks) fun b ob q => Heap.get?_push_of_some _ q
  show wpAny (model X.prog X.w) X.A (subscriptTail e (.Slice none none (some (.UnaryOp .USub (.Constant (.int 1) k p1) p2)) p3) (.ref a) (.ref s4.heap.objs.size)) (EP X pins σ Q) X.xe { s4 with heap := s4.heap.push { cls := .type "slice", data := .fields #[.none, .none, vs] } }
  rcases hx with ⟨hx, q⟩ | ⟨hx, q⟩
  · obtain ⟨its, r, ht, hz⟩ := I5.list hx
    have hlen := r.length
    refine tail_any (ops := [.ref a, .ref s4.heap.objs.size]) ht.isList.typeIs (PySem.slot_list_getitem.lookup) ?_ (by with_unfolding_all rfl)
    refine wpAny_getItem_list_slice ht.isList (Heap.IsSliceOf.new _ _ _ vs) .none .none ps (by decide) ?_ (by rw [List.size_toArray]; omega)
    rw [PySem.W.krv_pick]
    refine ⟨.ref _, _, I5.laid (t' := s4.toks) (o := .lst xs.reverse) (fun b ob q => Heap.get?_push_of_some _ q) (Nat.le_refl _) ?_, rfl, q _ (I5.hok.fresh (Nat.le_refl _))⟩
    exact ⟨by rw [List.length_reverse]; exact hz, _, 0, r.reverse, Heap.get?_push_size _ rfl⟩
  · obtain ⟨its, r, ht, hz⟩ := I5.tuple hx
    have hlen := r.length
    refine tail_any (ops := [.ref a, .ref s4.heap.objs.size]) ht.typeIs (PyProof.Rows.slot_tuple_getitem.lookup) ?_ (by with_unfolding_all rfl)
    refine HT.getItem_tuple_rev ht (Heap.IsSliceOf.new _ _ _ vs) ps ?_ (by rw [List.size_toArray]; omega)
    refine ⟨.ref _, _, I5.laid (t' := s4.toks) (o := .tup xs.reverse) (fun b ob q => Heap.get?_push_of_some _ q) (Nat.le_refl _) ?_, rfl, q _ (I5.hok.fresh (Nat.le_refl _))⟩
    exact ⟨by rw [List.length_reverse]; exact hz, _, r.reverse, IsTup.new _ _⟩
section
variable {X : Cx} {c : Ct}
def fRevA : MV → Option MV
  | .lst xs => some (.lst xs.reverse)
  | .tup xs => some (.tup xs.reverse)
  | _ => none
def mRevA (a : ME) : ME := mUn fRevA a
theorem me_revA {e : Expr} {a : ME} {k : Nat} {p1 p2 p3 pos : Pos} (h : PE X e (rdE c a)) (hK : c.K = X.K := by rfl) : PE X (.Subscript e (.Slice none none (some (.UnaryOp .USub (.Constant (.int 1) k p1) p2)) p3) pos) (rdE c (mRevA a)) :=
  PEw (pe_revT h) fun σ H Q q => by
    obtain ⟨F, Hk, bp, ρ, S, q⟩ := q
    refine rdw (bE postE S q) fun v H1 ⟨Hk1, x, ρ1, x1, S1, r1, h1⟩ => ?_
    cases x with
    | lst xs =>
      obtain ⟨p, vs, rfl, g1, s1⟩ := RV.lst.mp r1
      refine ⟨p, vs, rfl, .inl ⟨SqL.of (S1.1.ex _ _ g1), fun l hl => h1 _ _ _ (Ex.new (S1.1.ex.back hl)) (S1.1.new hl) (RV.lst.mpr ⟨l, _, rfl, upd_same, (s1.reverse).mono (Ex.new (S1.1.ex.back hl))⟩)⟩⟩
    | tup xs =>
      obtain ⟨p, vs, rfl, g1, s1⟩ := RV.tup.mp r1
      refine ⟨p, vs, rfl, .inr ⟨by rw [← hK]; exact ex_t S1.1.ex g1, fun l hl => h1 _ _ _ (Ex.new (S1.1.ex.back hl)) (S1.1.new hl) (RV.tup.mpr ⟨l, _, rfl, SqT.of upd_same, (s1.reverse).mono (Ex.new (S1.1.ex.back hl))⟩)⟩⟩
    | _ => exact h1.elim
end
end Tm
set_option Elab.async false
set_option linter.all false
set_option maxRecDepth 100000
set_option maxHeartbeats 2000000
namespace Tm
open PySem L2 PySem.Spec PyProof.Rows
open Evl (Ex ex_rd ex_l ex_t)
structure Bas (K : PySem.W.Frag) (mg : Str → Option Value) (y : Str) : Prop where
  ex : ∃ CL : Addr, mg y = some (.ref CL) ∧ PySem.W.readsIn K CL (.type "type") = true ∧ PySem.W.specialIn K (.ref CL) "__getattribute__" = some (some (.builtin "type.__getattribute__")) ∧ PySem.W.findCls K (.ref CL) (.type "type") "__init__" = some (.val (.builtin "ValueError.__init__"))
section
variable {X : Cx} {y : Str} {e : Expr} {es : List Expr} {ta : TA} {p1 p2 pos : Pos}
theorem pe_linit {pl : Sem Bool} (hg : Gl X y) (B : Bas X.K X.mg y) (ha : PA X (e :: es) ta)
    (hc : eval (.Call (.Attribute (.Name y p1) "__init__" p2) (e :: es) [] pos) X.env = (do
      let ov ← eval (.Name y p1) X.env
      standAt p2.atName
      let (f, first) ← holding [ov] (getMethod ov "__init__" pl)
      callWith pos f first (backTo pos (starEach (e :: es) X.env)) (backToKw pos (keywordEach [] X.env))) := by rfl)
    (hdb : (y == ("__debug__" : Str)) = false := by decide) (he : starEach (e :: es) X.env = (false, eval e X.env) :: starEach es X.env := by rfl) (hpl : (backTo pos (starEach es X.env)).any (·.1) = false := by rfl) :
    PE X (.Call (.Attribute (.Name y p1) "__init__" p2) (e :: es) [] pos) (tVeI X.K ta) := by
  obtain ⟨CL, hm, hr, hga, hf⟩ := B.ex
  refine ⟨fun pins s σ H Q I h => ?_⟩
  refine PySem.W.methodCall_KW (ld_glob I hg hm ?_ hdb) hc
  refine PySem.W.method_cls I.kIn hga (PySem.W.cls_value I.kIn hr hf (by decide +kernel) ?_)
  show wpAny _ _ (callWith pos (Value.builtin "ValueError.__init__") [] (backTo pos (starEach (e :: es) X.env)) []) _ _ _
  refine PyProof.Rows.callWith_method1 (thn (ha.run pos pins _ σ H _ (I.tok _) h) fun us s1 ⟨vs, H1, I1, r1, a, C, ws, ev, hl, T, ea, q⟩ => ?_) he hpl
  subst ev
  cases r1 with
  | @cons _ u0 _ ur ra rw' =>
    obtain rfl : u0 = Value.ref a := ra
    have hlen : ur.length ≤ sizeLine := by
      rw [← Paired.length rw', sizeLine_eq]
      omega
    exact oinit_ok T I1 ea hlen fun s' J => ⟨.non, H1, J, rfl, q⟩
end
structure OwX (K : PySem.W.Frag) (mg : Str → Option Value) (x : Str) (C fI : Addr) : Prop where
  T : OexC K C
  m : mg x = some (.ref C)
  iC : PySem.W.findIn K (.ref C) "__init__" = some (some (.ref fI))
  tI : PySem.W.typeIn K (.ref fI) = some (.type "function")
def spI1 (K : PySem.W.Frag) (f : Str) : Sp := fun vs H Q _ => ∃ (a C : Addr) (v : V), vs = [.ref a, v] ∧ OexC K C ∧ PySem.W.findIn K (.ref C) f = some none ∧ H a = some (exo a C none) ∧
  ∀ d, H d = none → d ≠ a → Q .non (upd (upd H d (exd d [(f, v)])) a (exo a C (some d)))
def spI2 (K : PySem.W.Frag) (f g : Str) : Sp := fun vs H Q _ => ∃ (a C : Addr) (v w : V), vs = [.ref a, v, w] ∧ OexC K C ∧ PySem.W.findIn K (.ref C) f = some none ∧ PySem.W.findIn K (.ref C) g = some none ∧ H a = some (exo a C none) ∧
  ∀ d, H d = none → d ≠ a → Q .non (upd (upd (upd H d (exd d [(f, v)])) a (exo a C (some d))) d (exd d [(g, w), (f, v)]))
section
variable {P : Program} {w : World} {K : PySem.W.Frag} {mg : Str → Option Value} {base : Heap}
theorem init1 {x qual y f p t : Str} {st : Stmt} {a : Addr} {fd : FuncData} {j : Nat} {p1 p2 p3 p4 p5 p6 q1 q2 q3 q4 : Pos} (F : Fun K x qual st a fd) (S : FnScope ["self", p] ["self", p] (defScope st)) (B : Bas K mg y)
    (hb : defBody st = [.Expr (.Call (.Attribute (.Name y p1) "__init__" p2) [.Name "self" p3, .Constant (.str t) j p4] [] p5) p6, .Assign [.Attribute (.Name "self" q1) f q2] (.Name p q3) q4])
    (hy : ∀ (L : Addr) (cd : Value), (envOfC qual (defScope st) L a cd).kindOf y = some NameKind.globalImplicit) (hs : (defScope st).names.lookup ("self" : Str) = some .local) (hp : (defScope st).names.lookup p = some .local)
    (hc : ∀ env : PySem.Env, ∃ pl : Sem Bool, eval (.Call (.Attribute (.Name y p1) "__init__" p2) [.Name "self" p3, .Constant (.str t) j p4] [] p5) env = (do
      let ov ← eval (.Name y p1) env
      standAt p2.atName
      let (f, first) ← holding [ov] (getMethod ov "__init__" pl)
      callWith p5 f first (backTo p5 (starEach [.Name "self" p3, .Constant (.str t) j p4] env)) (backToKw p5 (keywordEach [] env))))
    (hy1 : (y == ("__debug__" : Str)) = false) (hp1 : (p == ("__debug__" : Str)) = false) (hp2 : (p == ("__classdict__" : Str)) = false) :
    FnOk P w K mg base (L2N.CX P w) 2 a fd ["self", p] (spI1 K f) := by
  refine okXN F S (fun vs H Q E h => ?_) (fun cdv A outer s H vs Q E hr h => ?_)
  · obtain ⟨_, _, _, rfl, _⟩ := h
    rfl
  obtain ⟨b, C, v, rfl, T, hf, hH, hq⟩ := h
  have nd := S.nd
  have hself : PE (cxOf (L2N.CX P w) P w K mg base ["self", p] qual (defScope st) a cdv A outer s H E) (.Name "self" p3) (tVar 0) := pe_var (i := 0) rfl (.inl hs)
  have hself2 : PE (cxOf (L2N.CX P w) P w K mg base ["self", p] qual (defScope st) a cdv A outer s H E) (.Name "self" q1) (tVar 0) := pe_var (i := 0) rfl (.inl hs)
  have hpar : PE (cxOf (L2N.CX P w) P w K mg base ["self", p] qual (defScope st) a cdv A outer s H E) (.Name p q3) (tVar 1) := pe_var (i := 1) rfl (.inl hp) hp1 hp2
  obtain ⟨pl, hc⟩ := hc (cxOf (L2N.CX P w) P w K mg base ["self", p] qual (defScope st) a cdv A outer s H E).env
  have h1 := pe_linit (pl := pl) (e := .Name "self" p3) (es := [.Constant (.str t) j p4]) (pos := p5) (p1 := p1) (p2 := p2) (X := cxOf (L2N.CX P w) P w K mg base ["self", p] qual (defScope st) a cdv A outer s H E) (y := y) (hy _ _) B (pa_cons hself (pa_cons pe_str pa_nil)) (hc := hc) (hdb := hy1)
  refine ⟨_, by rw [hb]; exact pss_cons (ps_expr h1) (pss_cons (ps_ost hself2 hpar) pss_nil), ?_⟩
  exact ⟨.ref b, rfl, b, C, [.str t], rfl, by simp, T, hH, v, rfl, .ref b, rfl, b, C, rfl, T, hf, .inl ⟨hH, fun dx h1 h2 => hq dx h1 h2⟩⟩
end
section
variable {X : Cx} {e : Expr} {es : List Expr} {ta : TA} {p pos : Pos}
theorem pmk_oexN {CX : CXT} {x : Str} {C fI : Addr} {k : Nat} {fd : FuncData} {ps : List Str} {sp : Sp} {ds : List Value} {dvs : List V} (T : OexC X.K C) (iC : PySem.W.findIn X.K (.ref C) "__init__" = some (some (.ref fI))) (tI : PySem.W.typeIn X.K (.ref fI) = some (.type "function"))
    (F1 : FnOk X.prog X.w X.K X.mg X.base CX k fI fd ps sp) (hr : Room (k + 1) X.A) (hb : L2.Binds X.K fd ps ds) (hd : Vals dvs ds) (hx : Passes CX X (fun _ _ _ => False)) (hg : Gl X x) (hm : X.mg x = some (.ref C)) (ha : PA X (e :: es) ta)
    (hdb : (x == ("__debug__" : Str)) = false := by decide) (he : starEach (e :: es) X.env = (false, eval e X.env) :: starEach es X.env := by rfl) (hpl : (backTo pos (starEach es X.env)).any (·.1) = false := by rfl) :
    L2N.PMk X (.Call (.Name x p) (e :: es) [] pos) (tMkO C sp dvs ta) := fun pins s σ H Q I h => by
  obtain ⟨_, _, _, _, bm, _, _, _, _, _, _, _, _, _, _, look, hbm⟩ := T.cls
  refine wpAny_Call_Name_kw (ld_glob I hg hm ?_ hdb)
  refine PySem.W.callWith_K (h₀ := X.base) I.ok.mod.kin T.kC (thn (ha.run pos pins s σ H _ I h) fun us s1 q0 => ⟨q0.choose_spec.choose_spec.1.kIn, ?_⟩) he hpl
  obtain ⟨vs, G, J, r, hz, q⟩ := q0
  show wpAny _ _ (call (.ref C) us) _ _ _
  obtain ⟨hp, gs, dr, tk, os⟩ := s1
  obtain ⟨n, hn⟩ : ∃ n, hp.objs.size = n := ⟨_, rfl⟩
  have le1 : hp.objs.size ≤ n + 1 := by omega
  have sp1 := q (n + 1) (J.hok.fresh le1)
  have keep : ∀ b o, hp.get? b = some o → ((hp.push (PySem.W.kdv_tup us)).push (PySem.HandSPX.excO C n)).get? b = some o := fun b o z => Heap.get?_push_of_some _ (Heap.get?_push_of_some _ z)
  have there : ((hp.push (PySem.W.kdv_tup us)).push (PySem.HandSPX.excO C n)).get? (n + 1) = some (PySem.HandSPX.excO C n) := by subst hn; heap_get
  have J2 : Inv X pins σ (upd G (n + 1) (exo (n + 1) C none)) ⟨(hp.push (PySem.W.kdv_tup us)).push (PySem.HandSPX.excO C n), gs, dr, tk, os⟩ :=
    J.laid (t' := tk) (a := n + 1) (o := exo (n + 1) C none) (h' := (hp.push (PySem.W.kdv_tup us)).push (PySem.HandSPX.excO C n)) keep le1 (exo_ok there)
  have r2 : Vals (V.ref (n + 1) :: (vs ++ dvs)) (Value.ref (n + 1) :: (us ++ ds)) := .cons rfl (r.append hd)
  have len2 : (Value.ref (n + 1) :: us ++ ds).length = ps.length := (F1.len _ _ _ _ sp1 ▸ r2.length).symm
  have small : us.length ≤ sizeLine := by
    have := Paired.length r
    rw [sizeLine_eq]; omega
  subst hn
  refine wpAny_call (PySem.HandSPX.call_own F.excBase_ValueError (fun Y => PySem.HandSPX.refsVE_contains Y bm hbm) (J.kIn _ _ look) (PySem.W.looks_findIn J.kIn iC) (fun self => PySem.W.bind_fn J.kIn self tI) small (codeAny_mono
    (F1.run _ X.stack _ _ ⟨Value.ref (hp.objs.size + 1) :: us, []⟩ (Value.ref (hp.objs.size + 1) :: (us ++ ds)) _ _ (fun _ _ _ => False) (hr.make C us []) (J2.env0.make C us []) (hb _ (Value.ref (hp.objs.size + 1) :: us) J2.kIn len2) r2 sp1) fun z s' hq => ?_))
  match z, hq with
  | .error er, hq => exact hx pins σ _ _ er s' J2 hq
  | .ok (.ret u), hq =>
    obtain ⟨v, G2, o2, b2, un2, ok2, rv, rfl, d, fs, ea, ed, hd1, w⟩ := hq
    obtain ⟨h2, g2, d2, t2, _⟩ := s'
    obtain ⟨t0, B, JB, kB, gB, at2, na⟩ := mk_end0 (d2 := d2) (t2 := t2) J le1 keep un2 ok2 o2 b2 ea ed hd1
    exact ⟨rv, ⟨_, _, _, ⟨B, g2, d2, t2, _⟩, _, .ref C, some d, rfl, JB, kB, gB, at2, ⟨rfl, rfl, fun vs hv => by cases hv; rfl⟩, rfl, rfl, na, rfl, b2, raises_own T.exC T.tyC, w⟩⟩
  | .ok .next, hq => exact hq.elim
  | .ok .brk, hq => exact hq.elim
  | .ok .cont, hq => exact hq.elim
end
theorem made_heap {H1 : Hp} {a d : Addr} {o u z : HO} (ha : H1 a = none) (hd : d ≠ a) : upd (del (upd (upd (upd H1 a o) d u) a z) a) d = upd H1 d := by
  funext y b
  by_cases e1 : b = d
  · subst e1; rw [upd_same, upd_same]
  · rw [upd_ne e1, upd_ne e1]
    by_cases e2 : b = a
    · subst e2; rw [del_same, ha]
    · rw [del_ne e2, upd_ne e2, upd_ne e1, upd_ne e2]
section
variable {X : Cx} {c : Ct} {x f g : Str} {C fI : Addr} {k : Nat} {fd : FuncData} {ps : List Str} {W : WX}
theorem never {W : WX} (tk : L2N.Takes X W) : Passes (L2N.CX X.prog X.w) X (fun _ _ _ => False) := L2N.passes_call (E := fun _ _ _ => False) tk fun _ _ _ _ z => z.elim
def tMk1 (C : Addr) (f : Str) (ta : TA) : L2.St → Hp → XK → Prop := fun σ H Q => ta σ H fun vs H1 => ∃ v, vs = [v] ∧ ∀ d, H1 d = none → Q (.ref C) (some d) (upd H1 d (.xd [(f, v)]))
theorem pmk1 {e : Expr} {es : List Expr} {ta : TA} {p pos : Pos} (O : OwX X.K X.mg x C fI) (hf : PySem.W.findIn X.K (.ref C) f = some none) (F1 : FnOk X.prog X.w X.K X.mg X.base (L2N.CX X.prog X.w) k fI fd ps (spI1 X.K f)) (hr : Room (k + 1) X.A) (hb : L2.Binds X.K fd ps []) (tk : L2N.Takes X W) (hg : Gl X x) (ha : PA X (e :: es) ta)
    (hm : ∀ σ H Q Q', ta σ H Q → (∀ vs H1, Q vs H1 → Q' vs H1) → ta σ H Q')
    (hdb : (x == ("__debug__" : Str)) = false := by decide) (he : starEach (e :: es) X.env = (false, eval e X.env) :: starEach es X.env := by rfl) (hpl : (backTo pos (starEach es X.env)).any (·.1) = false := by rfl) :
    L2N.PMk X (.Call (.Name x p) (e :: es) [] pos) (tMk1 C f ta) := by
  have z := pmk_oexN (p := p) (ds := []) (dvs := []) O.T O.iC O.tI F1 hr hb .nil (never tk) hg O.m ha hdb he hpl
  intro pins s σ H Q I h
  refine z pins s σ H Q I (hm σ H _ _ h fun vs H1 ⟨v, ev, q⟩ => ?_)
  subst ev
  refine ⟨by simp, fun a ha => ⟨a, C, v, rfl, O.T, hf, upd_same, fun d hd hne => ⟨rfl, d, [(f, v)], upd_same, ?_, ?_, ?_⟩⟩⟩
  · rw [upd_ne hne, upd_same]
  · rw [upd_ne hne] at hd; exact hd
  · rw [made_heap ha hne]
    exact q d (by rw [upd_ne hne] at hd; exact hd)
end
end Tm
set_option Elab.async false
set_option linter.all false
set_option maxRecDepth 100000
set_option maxHeartbeats 2000000
namespace Tm
open PySem L2 PySem.Spec PyProof.Rows
open Evl (Ex ex_rd ex_l ex_t)
def NoX (H H' : Hp) : Prop := ∀ a o, H a = some o → (∀ fs, o ≠ .xd fs) → H' a = some o
theorem NoX.rdl {H H' : Hp} (e : NoX H H') {a : Addr} {xs : List V} (h : Rd H a (.lst xs)) : Rd H' a (.lst xs) := by
  rcases h with h | ⟨o, h⟩
  · exact Or.inl (e a _ h (fun _ z => nomatch z))
  · exact Or.inr ⟨o, e a _ h (fun _ z => nomatch z)⟩
theorem NoX.rdt {H H' : Hp} (e : NoX H H') {a : Addr} {xs : List V} (h : Rd H a (.tup xs)) : Rd H' a (.tup xs) := by
  rcases h with h | ⟨o, h⟩
  · exact Or.inl (e a _ h (fun _ z => nomatch z))
  · exact Or.inr ⟨o, e a _ h (fun _ z => nomatch z)⟩
mutual
theorem RV.sub {K : PySem.W.Frag} {H H' : Hp} (e : NoX H H') : ∀ (x : MV) (v : V), RV K H x v → RV K H' x v
  | .non, v, h => by unfold RV at h ⊢; exact h
  | .bl b, v, h => by unfold RV at h ⊢; exact h
  | .int i, v, h => by unfold RV at h ⊢; exact h
  | .str x, v, h => by unfold RV at h ⊢; exact h
  | .tup xs, v, h => by
    unfold RV at h ⊢
    obtain ⟨a, vs, e1, e2, e3⟩ := h
    exact ⟨a, vs, e1, e2.imp e.rdt id, RVs.sub e xs vs e3⟩
  | .lst xs, v, h => by
    unfold RV at h ⊢
    obtain ⟨a, vs, e1, e2, e3⟩ := h
    exact ⟨a, vs, e1, e _ _ e2 (fun _ z => nomatch z), RVs.sub e xs vs e3⟩
  | .own xs, v, h => by unfold RV at h; exact h.elim
  | .raw w, v, h => by unfold RV at h ⊢; exact h
  | .scr ns, v, h => by
    unfold RV at h ⊢
    obtain ⟨a, e1, e2⟩ := h
    exact ⟨a, e1, e2.imp e.rdl id⟩
  | .fnc x, v, h => by unfold RV at h ⊢; exact h
  | .obj C fs, v, h => by unfold RV at h; exact h.elim
  | .dct ks xs, v, h => by
    unfold RV at h ⊢
    obtain ⟨a, vs, e1, e2, e3, e4⟩ := h
    exact ⟨a, vs, e1, e _ _ e2 (fun _ z => nomatch z), e3, RVs.sub e xs vs e4⟩
  | .dow ks xs, v, h => by unfold RV at h; exact h.elim
  | .dot ks xs, v, h => by unfold RV at h; exact h.elim
theorem RVs.sub {K : PySem.W.Frag} {H H' : Hp} (e : NoX H H') : ∀ (xs : List MV) (vs : List V), RVs K H xs vs → RVs K H' xs vs
  | [], vs, h => by unfold RVs at h ⊢; exact h
  | x :: xs, vs, h => by
    unfold RVs at h ⊢
    obtain ⟨v, r, e1, e2, e3⟩ := h
    exact ⟨v, r, e1, RV.sub e x v e2, RVs.sub e xs r e3⟩
end
theorem KN.sub {K : PySem.W.Frag} {Hk Hk' : Hp} (e : NoX Hk Hk') : ∀ {ks xs : List MV} {l : List (NestedKey × Addr × V)}, KN K Hk ks xs l → KN K Hk' ks xs l
  | [], [], _, h => h
  | [], _ :: _, _, h => h.elim
  | _ :: _, [], _, h => h.elim
  | k :: ks, x :: xs, _, h => by
    obtain ⟨nk, a, v, r, h1, h2, h3, h4, h5, h6⟩ := h
    exact ⟨nk, a, v, r, h1, h2, h3, RV.sub e _ _ h4, RV.sub e _ _ h5, KN.sub e h6⟩
theorem OF.sub {K : PySem.W.Frag} {Hk Hk' H : Hp} {x : MV} {v : V} {A : List Addr} (e : NoX Hk Hk') (h : OF K Hk H x v A) : OF K Hk' H x v A := by
  cases x with
  | own xs =>
    unfold OF at h ⊢
    obtain ⟨p, vs, e1, e2, e3, e4⟩ := h
    exact ⟨p, vs, e1, e2, e3, RVs.sub e _ _ e4⟩
  | dow ks xs =>
    unfold OF at h ⊢
    obtain ⟨p, vs, e1, e2, e3, e5, e4⟩ := h
    exact ⟨p, vs, e1, e2, e3, e5, RVs.sub e _ _ e4⟩
  | dot ks xs =>
    unfold OF at h ⊢
    obtain ⟨p, l, e1, e2, e3, e4⟩ := h
    exact ⟨p, l, e1, e2, e3, KN.sub e e4⟩
  | obj C fs => exact (show False by unfold OF at h; unfold RV at h; exact h.2).elim
  | _ =>
    unfold OF at h ⊢
    exact ⟨h.1, RV.sub e _ _ h.2⟩
theorem OFs.sub {K : PySem.W.Frag} {Hk Hk' H : Hp} (e : NoX Hk Hk') : ∀ {fs : List (Str × MV)} {vs : List (Str × V)} {A : List Addr}, OFs K Hk H fs vs A → OFs K Hk' H fs vs A
  | [], _, _, h => h
  | (n, x) :: fs, vs, A, h => by
    obtain ⟨v, r, B, C, e1, e2, h1, h2⟩ := h
    exact ⟨v, r, B, C, e1, e2, h1.sub e, OFs.sub e h2⟩
theorem OV.sub {K : PySem.W.Frag} {Hk Hk' H : Hp} {x : MV} {v : V} {A : List Addr} (e : NoX Hk Hk') (h : OV K Hk H x v A) : OV K Hk' H x v A := by
  cases x with
  | obj C fs =>
    unfold OV at h ⊢
    obtain ⟨p, CA, dx, vfs, B, e1, e2, e0, e3, e4, e5⟩ := h
    exact ⟨p, CA, dx, vfs, B, e1, e2, e0, e3, OFs.sub e e4, e5⟩
  | _ => (unfold OV at h ⊢; exact OF.sub e h)
section
variable {K : PySem.W.Frag} {F Hk H : Hp} {bp : List (Nat × Addr)} {σ : L2.St} {ρ : Env}
theorem RS.less (S : RS K F Hk H (p :: bp) σ ρ) : RS K F Hk H bp σ ρ := ⟨S.len, S.ex, S.fr, S.frk, S.ow, fun q hq => S.bor q (List.mem_cons_of_mem _ hq)⟩
end
structure ExT (K : PySem.W.Frag) (mg : Str → Option Value) (y : Str) (x : Str) (b : Bool) : Prop where
  ex : ∃ C D, mg x = some (.ref C) ∧ mg y = some (.ref D) ∧ PySem.W.exmOne K (.ref C) (.ref D) = some b
def XIn (F : Hp) (e : MX) (d : Option Addr) : Prop := (e.fs = [] ∧ d = none) ∨ ∃ dx vfs, d = some dx ∧ F dx = some (.xd vfs) ∧ ∀ K H, XFs K H e.fs vfs
def cH (c : Ct) (i : Nat) (a : Addr) (e : MX) (d : Option Addr) : Ct := ⟨c.K, c.mg, fun _ _ _ _ => False, i :: c.bs, fun F bp => (∃ bq, bp = (i, a) :: bq ∧ c.J F bq) ∧ XIn F e d, fun F F1 bp x h => by
  obtain ⟨⟨bq, e1, e2⟩, h2⟩ := h
  refine ⟨⟨bq, e1, c.Jm _ _ _ x e2⟩, ?_⟩
  rcases h2 with h2 | ⟨dx, vfs, q1, q2, q3⟩
  · exact .inl h2
  · exact .inr ⟨dx, vfs, q1, x _ _ q2, q3⟩⟩
end Tm
set_option Elab.async false
set_option linter.all false
set_option maxRecDepth 100000
set_option maxHeartbeats 2000000
namespace Tm
open PySem L2 PySem.Spec PyProof.Rows
open Evl (Ex ex_rd ex_l ex_t)
def mRaise1 (x f : Str) (a : ME) : MS := fun ρ => (a ρ).bind fun y ρ1 => .exc ⟨x, [(f, y)]⟩ ρ1
structure Cl0 (K : PySem.W.Frag) (mg : Str → Option Value) (x : Str) : Prop where
  ex : ∃ C, mg x = some (.ref C) ∧ PySem.W.excIn K C PySem.HandSPX.veTail "ValueError.__new__" = true ∧ PySem.W.keepIn K (.ref C) = true ∧ PySem.W.subIn K (.ref C) (.type "BaseException") = some true ∧ PySem.W.typeIn K (.ref C) = some (.type "type")
structure Cl1 (P : Program) (w : World) (K : PySem.W.Frag) (mg : Str → Option Value) (base : Heap) (x f : Str) : Prop where
  ex : ∃ C fI fd ps, OwX K mg x C fI ∧ PySem.W.findIn K (.ref C) f = some none ∧ FnOk P w K mg base (L2N.CX P w) 2 fI fd ps (spI1 K f) ∧ L2.Binds K fd ps []
structure Cl2 (P : Program) (w : World) (K : PySem.W.Frag) (mg : Str → Option Value) (base : Heap) (x f g : Str) : Prop where
  ex : ∃ C fI fd ps, OwX K mg x C fI ∧ PySem.W.findIn K (.ref C) f = some none ∧ PySem.W.findIn K (.ref C) g = some none ∧ FnOk P w K mg base (L2N.CX P w) 2 fI fd ps (spI2 K f g) ∧ L2.Binds K fd ps []
section
variable {X : Cx} {c : Ct} {x f g m : Str} {k j : Nat}
theorem ms_raise1 {e : Expr} {a : ME} {p p2 pos : Pos} (Z : Cl1 X.prog X.w X.K X.mg X.base x f) (hc : X.calm = true) (hr : Room k X.A) (hk : 3 ≤ k) (tk : L2N.Takes X c.W) (hg : Gl X x) (he : PE X e (rdE c a)) (hmg : c.mg = X.mg := by rfl)
    (hdb : (x == ("__debug__" : Str)) = false := by decide) (hst : starEach [e] X.env = (false, eval e X.env) :: starEach [] X.env := by rfl) (hpl : (backTo p2 (starEach [] X.env)).any (·.1) = false := by rfl) :
    PS X (.Raise (some (.Call (.Name x p) [e] [] p2)) none pos) (rdS c (mRaise1 x f a)) := by
  obtain ⟨C, fI, fd, ps, O, h2, h3, h4⟩ := Z.ex
  refine PSw (L2N.ps_raise hc tk (pmk1 (W := c.W) O h2 h3 (hr.mono hk) h4 tk hg (ma_cons he ma_nil hst) (fun σ H Q Q' q w => rdAw q w) hdb hst hpl)) fun D σ H ⟨F, Hk, bp, ρ, S, h⟩ => ?_
  have h : okS c F Hk bp D ((a ρ).bind fun y ρ1 => .exc ⟨x, [(f, y)]⟩ ρ1) := h
  refine ⟨F, Hk, bp, ρ, S, ?_⟩
  show okA c F Hk bp σ _ ((a ρ).bind fun y ρ1 => (mNil ρ1).bind fun xs ρ2 => .ok (y :: xs, ρ2))
  cases ea : a ρ with
  | stuck => rw [ea] at h; exact h
  | exc e ρ' => rw [ea] at h; exact fun Hk' H' cls d => h Hk' H' σ cls d
  | ok q =>
    obtain ⟨y, ρ1⟩ := q
    rw [ea] at h
    intro Hk1 H1 vs x1 S1 r1
    obtain ⟨v, us, rfl, r2, r3⟩ := RVs.cons.mp r1
    cases RVs.nil.mp r3
    refine ⟨v, rfl, fun d hd => ?_⟩
    have xn := Ex.new (o := HO.xd [(f, v)]) (S1.ex.back hd)
    exact h _ _ _ _ _ (x1.trans xn) (S1.new hd) ⟨C, by rw [hmg]; exact O.m, rfl, .inr ⟨d, _, rfl, upd_same, v, [], rfl, r2.mono xn, rfl⟩⟩
end
theorem XFs.look {K : PySem.W.Frag} {H : Hp} {f : Str} {x : MV} : ∀ {xs : List (Str × MV)} {vs : List (Str × V)}, XFs K H xs vs → xs.lookup f = some x → ∃ v, vs.lookup f = some v ∧ RV K H x v
  | [], _, _, h => by simp at h
  | (n, y) :: xs, vs, r, h => by
    obtain ⟨v, rr, e1, e2, e3⟩ := r
    subst e1
    rw [List.lookup_cons] at h ⊢
    cases eq : f == n with
    | true => rw [eq] at h; cases h; exact ⟨v, rfl, e2⟩
    | false => rw [eq] at h; exact XFs.look e3 h
def xcB (K : PySem.W.Frag) (C : Addr) (fs : List Str) : Bool := xfB K C && decide (PySem.W.findIn K (.ref C) "__class__" = some (some (.builtin "object.__class__"))) && decide (PySem.W.specialIn K (.builtin "object.__class__") "__get__" = some (some (.builtin "getset_descriptor.__get__"))) && decide (PySem.W.takesIn K (.builtin "object.__class__") = some true) && decide (PySem.W.mroIn K C (.type "object") = some true) && fs.all (fun f => decide (PySem.W.findIn K (.ref C) f = some none))
structure XcF (K : PySem.W.Frag) (mg : Str → Option Value) (fs : List Str) (x : Str) : Prop where
  ex : ∃ C, mg x = some (.ref C) ∧ xcB K C fs = true
structure KiT (K : PySem.W.Frag) (mg : Str → Option Value) (y x : Str) (b : Bool) : Prop where
  ex : ∃ C D, mg x = some (.ref C) ∧ mg y = some (.ref D) ∧ PySem.W.kitOne K (.ref C) (.ref D) = some b
structure XcG (K : PySem.W.Frag) (C : Addr) (fs : List Str) : Prop where
  xf : XfC K C
  xc : ExcC K C
  no : ∀ f ∈ fs, PySem.W.findIn K (.ref C) f = some none
def inCls (s : Stmt) (j : Nat) : Stmt := match s with
  | .ClassDef _ _ _ b _ _ _ _ _ _ _ => b.getD j (.Pass ⟨0, 0, 0, 0⟩)
  | _ => .Pass ⟨0, 0, 0, 0⟩
theorem owX_mk {K : PySem.W.Frag} {mg : Str → Option Value} {x : Str} {C fI : Addr} {nm q : Str} {N : Addr} {bs bm : List Value} {sn : List Str} {sub : List Value} {ab : Bool} {col : Option Bool} {dd : Option Addr} {k0 k1 k2 k3 k5 : Option Value}
    (m : mg x = some (.ref C)) (l : K.lookup C = some (excClassObj nm q C N bs bm true sn sub ab col dd k0 k1 k2 k3 k5 "ValueError.__new__")) (r : PySem.HandSPX.refsVE bm = true) (sa : PySem.W.findIn K (.ref C) "__setattr__" = some (some (.builtin "object.__setattr__")))
    (eC : PySem.W.subIn K (.ref C) (.type "BaseException") = some true) (tC : PySem.W.typeIn K (.ref C) = some (.type "type")) (kC : PySem.W.keepIn K (.ref C) = true) (iC : PySem.W.findIn K (.ref C) "__init__" = some (some (.ref fI))) (tI : PySem.W.typeIn K (.ref fI) = some (.type "function")) : OwX K mg x C fI :=
  ⟨⟨⟨nm, q, N, bs, bm, sn, sub, ab, col, dd, k0, k1, k2, k3, k5, l, r⟩, sa, eC, tC, kC⟩, m, iC, tI⟩
end Tm
set_option Elab.async false
set_option linter.all false
set_option maxRecDepth 100000
set_option maxHeartbeats 2000000
namespace Tm
open PySem L2
open Evl (Ex ex_rd ex_l ex_t)
def mWhileN : Nat → MT → MS → MS
  | 0, _, _ => fun _ => .stuck
  | n + 1, t, b => fun ρ => (t ρ).bind fun k ρ1 => if k then ((b ρ1).bind fun f ρ2 => match f with
    | .nx => mWhileN n t b ρ2
    | .ct => mWhileN n t b ρ2
    | .br => .ok (.nx, ρ2)
    | .rt v => .ok (.rt v, ρ2)) else .ok (.nx, ρ1)
section
variable {X : Cx} {c : Ct} {pos : Pos} {t : MT} {b : MS}
theorem okS.wl {F Hk : Hp} {bp : List (Nat × Addr)} {D : Ends} {n : Nat} {N : St → Hp → Prop} (hN : ∀ Hk' H' σ' ρ', Ex Hk Hk' → RS c.K F Hk' H' bp σ' ρ' → okS c F Hk' bp D (mWhileN n t b ρ') → N σ' H') {r : Res (Fl × Env)}
    (h : okS c F Hk bp D (r.bind fun f ρ2 => match f with | .nx => mWhileN n t b ρ2 | .ct => mWhileN n t b ρ2 | .br => .ok (.nx, ρ2) | .rt v => .ok (.rt v, ρ2))) : okS c F Hk bp { D with nx := N, ct := N, bk := D.nx } r := by
  cases r with
  | stuck => exact h
  | exc e ρ => exact h
  | ok q =>
    obtain ⟨f, ρ1⟩ := q
    cases f with
    | nx => exact fun Hk1 H1 σ1 x1 S1 => hN Hk1 H1 σ1 ρ1 x1 S1 (okS.mono x1 h)
    | ct => exact fun Hk1 H1 σ1 x1 S1 => hN Hk1 H1 σ1 ρ1 x1 S1 (okS.mono x1 h)
    | br => exact h
    | rt x => exact h
end
end Tm
set_option Elab.async false
set_option linter.all false
set_option maxRecDepth 100000
set_option maxHeartbeats 2000000
namespace Tm
open PySem L2
open Evl (Ex ex_rd ex_l ex_t)
section
variable {X : Cx} {c : Ct} {p p2 pos : Pos} {x : Str} {i : Nat}
def lenV (ρ : Env) (i : Nat) : Option MV := match ρ[i]? with
  | some (some (.own xs)) => some (.int xs.length)
  | some (some x) => bLen [x]
  | _ => none
def mLenV (i : Nat) : ME := fun ρ => match lenV ρ i with | some z => .ok (z, ρ) | none => .stuck
theorem bLen_per {x z : MV} (h : bLen [x] = some z) : x.per = true := by
  cases x <;> first | rfl | cases h
theorem me_lenV (hm : X.mg "len" = none) (hN : X.N[i]? = some x) (hv : Vis X.env.scope x) (hg : Gl X "len" := by rfl) (hK : c.K = X.K := by rfl) (hd : (x == ("__debug__" : Str)) = false := by decide) (hcd : (x == ("__classdict__" : Str)) = false := by decide)
    (he : starEach [Expr.Name x p] X.env = (false, eval (.Name x p) X.env) :: starEach [] X.env := by rfl) (hpl : (backTo pos (starEach [] X.env)).any (·.1) = false := by rfl) : PE X (.Call (.Name "len" p2) [.Name x p] [] pos) (rdE c (mLenV i)) :=
  PEw (pe_callB cr_lenM hg hm (by decide +kernel) (pa_cons (pe_var hN hv hd hcd) pa_nil he) (by decide) (by decide) he hpl) fun σ H Q h => by
    obtain ⟨F, Hk, bp, ρ, S, h⟩ := h
    unfold mLenV at h
    cases e : lenV ρ i with
    | none => rw [e] at h; exact h.elim
    | some z =>
      rw [e] at h
      unfold lenV at e
      split at e
      · rename_i xs hx
        cases e
        obtain ⟨q, vs, e1, e2, e3, e4, e5⟩ := S.1.getOwn hx
        refine ⟨_, e1, ?_⟩
        rw [← hK]
        exact .inl ⟨q, vs, rfl, .inl (SqL.of e2), by rw [e3.length]; exact h _ _ _ (Ex.refl _) S.1 (RV.int.mpr rfl)⟩
      · rename_i x n hx
        have px := bLen_per e
        obtain ⟨w, e1, r1⟩ := S.1.get hx px
        refine ⟨w, e1, ?_⟩
        rw [← hK]
        exact cs_len [x] z [w] Hk H Q e S.1.ex (RVs.cons.mpr ⟨w, [], rfl, r1, RVs.nil.mpr rfl⟩) (fun u ru => h _ _ u (Ex.refl _) S.1 ru) fun q ob hq ru => h _ _ _ (Ex.new (S.1.ex.back hq)) (S.1.new hq) ru
      · cases e
abbrev MP := Env → Res (Option Int × Env)
def slV (ρ : Env) (i : Nat) (l h : Option Int) : Option (List MV) := match ρ[i]? with
  | some (some (.own xs)) => some (cutM xs l h)
  | some (some (.lst xs)) => some (cutM xs l h)
  | _ => none
theorem wP {m : MP} {σ : St} {H : Hp} {Q Q' : Option Int → Hp → Prop} : rdP c m σ H Q → (∀ v H, Q v H → Q' v H) → rdP c m σ H Q' := fun ⟨F, Hk, bp, ρ, S, q⟩ w => ⟨F, Hk, bp, ρ, S, by
  cases e : m ρ with
  | ok a => rw [e] at q; exact fun Hk2 H2 x S => w _ _ (q Hk2 H2 x S)
  | exc e' ρ => rw [e] at q; exact q
  | stuck => rw [e] at q; exact q⟩
def mSlV (i : Nat) (l h : MP) : ME := fun ρ => if has ρ i then (l ρ).bind fun a ρ1 => (h ρ1).bind fun b ρ2 => match slV ρ2 i a b with | some zs => .ok (.lst zs, ρ2) | none => .stuck else .stuck
theorem slV_rs {F Hk H : Hp} {bp : List (Nat × Addr)} {σ : St} {ρ : Env} {a b : Option Int} {zs : List MV} {v : V} (S : At c F Hk H bp σ ρ) (e : slV ρ i a b = some zs) (ev : σ[i]? = some (some v)) :
    ∃ q vs, v = .ref q ∧ SqL c.K H q vs ∧ RVs c.K Hk zs (cutV vs a b) := by
  unfold slV at e
  split at e
  · rename_i xs hx
    cases e
    obtain ⟨q, vs, e1, e2, e3, e4, e5⟩ := S.1.getOwn hx
    rw [ev] at e1
    cases e1
    exact ⟨q, vs, rfl, SqL.of e2, e3.cut a b⟩
  · rename_i xs hx
    cases e
    obtain ⟨w, e1, r1⟩ := S.1.get hx rfl
    rw [ev] at e1
    cases e1
    obtain ⟨q, vs, rfl, g1, g2⟩ := RV.lst.mp r1
    exact ⟨q, vs, rfl, SqL.of (S.1.ex _ _ g1), g2.cut a b⟩
  · cases e
theorem me_slV {lo hi : Option Expr} {ml mh : MP} (hN : X.N[i]? = some x) (hv : Vis X.env.scope x) (hl : PO X lo (rdP c ml)) (hh : PO X hi (rdP c mh)) (hK : c.K = X.K := by rfl) (hd : (x == ("__debug__" : Str)) = false := by decide) (hcd : (x == ("__classdict__" : Str)) = false := by decide) :
    PE X (.Subscript (.Name x p) (.Slice lo hi none p2) pos) (rdE c (mSlV i ml mh)) :=
  PEw (pe_slice sl_list (pe_var hN hv hd hcd) hl hh) fun σ H Q h => by
    obtain ⟨F, Hk, bp, ρ, S, h⟩ := h
    unfold mSlV at h
    split at h
    · rename_i hh
      obtain ⟨v, ev⟩ := has_rs S hh
      refine ⟨v, ev, ?_⟩
      refine wP (bP postE S h) fun a H2 ⟨Hk2, ρ2, x2, S2, h2⟩ => ?_
      refine wP (bP postE S2 h2) fun b H3 ⟨Hk3, ρ3, x3, S3, h3⟩ => ?_
      have h3 : okE c F Hk3 bp σ Q (match slV ρ3 i a b with | some zs => .ok (.lst zs, ρ3) | none => .stuck) := h3
      cases e : slV ρ3 i a b with
      | none => rw [e] at h3; exact h3.elim
      | some zs =>
        rw [e] at h3
        obtain ⟨q, vs, rfl, s1, s2⟩ := slV_rs S3 e ev
        rw [← hK]
        exact ⟨q, vs, rfl, s1, fun w hw => h3 _ _ _ (Ex.new (S3.1.ex.back hw)) (S3.1.new hw) (RV.lst.mpr ⟨w, _, rfl, upd_same, s2.mono (Ex.new (S3.1.ex.back hw))⟩)⟩
    · exact h.elim
end
end Tm
set_option Elab.async false
set_option linter.all false
set_option maxRecDepth 100000
set_option maxHeartbeats 2000000
namespace Tm
open PySem L2
open Evl (Ex ex_rd ex_l ex_t)
inductive BA where
  | v (x : MV) | b (i : Nat)
abbrev MB := Env → Res (List BA × Env)
def mbNil : MB := fun ρ => .ok ([], ρ)
def mbV (a : ME) (b : MB) : MB := fun ρ => (a ρ).bind fun x ρ1 => (b ρ1).bind fun xs ρ2 => .ok (.v x :: xs, ρ2)
def mbB (i : Nat) (b : MB) : MB := fun ρ => if has ρ i then (b ρ).bind fun xs ρ2 => .ok (.b i :: xs, ρ2) else .stuck
def idxB : List BA → List Nat
  | [] => []
  | .v _ :: r => idxB r
  | .b i :: r => i :: idxB r
def posB : List BA → Nat → List Nat
  | [], _ => []
  | .v _ :: r, k => posB r (k + 1)
  | .b _ :: r, k => k :: posB r (k + 1)
def MV.held : MV → Bool
  | .own _ => true
  | .obj _ _ => true
  | _ => false
def fill : List BA → Env → Option (List MV)
  | [], _ => some []
  | .v x :: r, ρ => (match fill r ρ with | some xs => some (x :: xs) | none => none)
  | .b i :: r, ρ => (match ρ[i]?, fill r ρ with | some (some x), some xs => if x.held then some (x :: xs) else none | _, _ => none)
def back (ρ : Env) : List Nat → Env → Env
  | [], _ => ρ
  | i :: is, os => back (ρ.set i (os.head?).join) is os.tail
def BVs (K : PySem.W.Frag) (Hk : Hp) (σ : St) : List BA → List V → Prop
  | [], vs => vs = []
  | .v x :: r, vs => ∃ v us, vs = v :: us ∧ RV K Hk x v ∧ BVs K Hk σ r us
  | .b i :: r, vs => ∃ v us, vs = v :: us ∧ σ[i]? = some (some v) ∧ BVs K Hk σ r us
theorem BVs.mono {K : PySem.W.Frag} {Hk Hk' : Hp} {σ : St} (e : Ex Hk Hk') : ∀ {xs : List BA} {vs : List V}, BVs K Hk σ xs vs → BVs K Hk' σ xs vs
  | [], _, h => h
  | .v x :: r, vs, ⟨v, us, e1, e2, e3⟩ => ⟨v, us, e1, RV.mono e _ _ e2, BVs.mono e e3⟩
  | .b i :: r, vs, ⟨v, us, e1, e2, e3⟩ => ⟨v, us, e1, e2, BVs.mono e e3⟩
theorem BVs.length {K : PySem.W.Frag} {Hk : Hp} {σ : St} : ∀ {xs : List BA} {vs : List V}, BVs K Hk σ xs vs → vs.length = xs.length
  | [], _, h => by rw [show _ = [] from h]; rfl
  | .v x :: r, vs, ⟨v, us, e1, e2, e3⟩ => by rw [e1, List.length_cons, List.length_cons, e3.length]
  | .b i :: r, vs, ⟨v, us, e1, e2, e3⟩ => by rw [e1, List.length_cons, List.length_cons, e3.length]
def okBA (c : Ct) (F Hk : Hp) (bp : List (Nat × Addr)) (σ : St) (Q : List V → Hp → Prop) : Res (List BA × Env) → Prop
  | .ok (xs, ρ') => ∀ Hk' H' vs, Ex Hk Hk' → RS c.K F Hk' H' bp σ ρ' → BVs c.K Hk' σ xs vs → Q vs H'
  | .exc e ρ' => Wish c F Hk bp σ e ρ'
  | .stuck => False
theorem okBA.mono {c : Ct} {F Hk Hk' : Hp} {bp : List (Nat × Addr)} {σ : St} {Q : List V → Hp → Prop} {r : Res (List BA × Env)} (x : Ex Hk Hk') (h : okBA c F Hk bp σ Q r) : okBA c F Hk' bp σ Q r := by
  cases r with
  | ok a => exact fun Hk2 H2 v x2 => h Hk2 H2 v (x.trans x2)
  | exc e ρ => exact Wish.mono x h
  | stuck => exact h
def rdBA (c : Ct) (m : MB) : TA := fun σ H Q => ∃ F Hk bp ρ, At c F Hk H bp σ ρ ∧ okBA c F Hk bp σ Q (m ρ)
theorem postBA {c : Ct} {F : Hp} {bp : List (Nat × Addr)} {σ : St} {Q : List V → Hp → Prop} : Post c F bp σ fun Hk r => okBA c F Hk bp σ Q r := ⟨fun _ _ _ h => h, fun _ h => h, fun _ _ _ x h => okBA.mono x h⟩
section
variable {X : Cx} {c : Ct} {x : Str} {i : Nat} {p pos : Pos} {e : Expr} {es : List Expr}
theorem rdBAw {m : MB} {σ : St} {H : Hp} {Q Q' : List V → Hp → Prop} (h : rdBA c m σ H Q) (w : ∀ v H, Q v H → Q' v H) : rdBA c m σ H Q' := by
  obtain ⟨F, Hk, bp, ρ, S, q⟩ := h
  refine ⟨F, Hk, bp, ρ, S, ?_⟩
  cases e : m ρ with
  | ok a => rw [e] at q; exact fun Hk2 H2 v x S r => w _ _ (q Hk2 H2 v x S r)
  | exc e' ρ => rw [e] at q; exact q
  | stuck => rw [e] at q; exact q
theorem bBA {F Hk H : Hp} {bp : List (Nat × Addr)} {σ : St} {ρ : Env} {β : Type} {P : Hp → Res (β × Env) → Prop} (p : Post c F bp σ P) {a : MB} {k : List BA → Env → Res (β × Env)} (S : At c F Hk H bp σ ρ) (h : P Hk ((a ρ).bind k)) :
    rdBA c a σ H fun vs H1 => ∃ Hk1 xs ρ1, Ex Hk Hk1 ∧ At c F Hk1 H1 bp σ ρ1 ∧ BVs c.K Hk1 σ xs vs ∧ P Hk1 (k xs ρ1) := by
  refine ⟨F, Hk, bp, ρ, S, ?_⟩
  cases e : a ρ with
  | stuck => rw [e] at h; exact p.st _ h
  | exc x ρ' => rw [e] at h; exact p.ex _ _ _ h
  | ok q =>
    rw [e] at h
    exact fun Hk1 H1 v x1 S1 r1 => ⟨Hk1, q.1, q.2, x1, ⟨S1, S.2⟩, r1, p.mono _ _ _ x1 h⟩
theorem pb_nil : PA X [] (rdBA c mbNil) := PAw pa_nil fun σ H Q h => by
  obtain ⟨F, Hk, bp, ρ, S, h⟩ := h
  exact h _ _ _ (Ex.refl _) S.1 rfl
theorem pb_v {a : ME} {b : MB} (ha : PE X e (rdE c a)) (hb : PA X es (rdBA c b)) (hs : starEach (e :: es) X.env = (false, eval e X.env) :: starEach es X.env := by rfl) : PA X (e :: es) (rdBA c (mbV a b)) :=
  PAw (pa_cons ha hb hs) fun σ H Q h => by
    obtain ⟨F, Hk, bp, ρ, S, h⟩ := h
    refine rdw (bE postBA S h) fun v H1 ⟨Hk1, x, ρ1, x1, S1, r1, h1⟩ => ?_
    refine rdBAw (bBA postBA S1 h1) fun vs H2 ⟨Hk2, xs, ρ2, x2, S2, r2, h2⟩ => ?_
    exact h2 _ _ _ (Ex.refl _) S2.1 ⟨v, vs, rfl, RV.mono x2 _ _ r1, r2⟩
theorem pb_b {b : MB} (hN : X.N[i]? = some x) (hv : Vis X.env.scope x) (hb : PA X es (rdBA c b)) (hd : (x == ("__debug__" : Str)) = false := by decide) (hcd : (x == ("__classdict__" : Str)) = false := by decide) (hs : starEach (Expr.Name x p :: es) X.env = (false, eval (.Name x p) X.env) :: starEach es X.env := by rfl) : PA X (.Name x p :: es) (rdBA c (mbB i b)) :=
  PAw (pa_cons (pe_var hN hv hd hcd) hb hs) fun σ H Q h => by
    obtain ⟨F, Hk, bp, ρ, S, h⟩ := h
    unfold mbB at h
    split at h
    · rename_i hh
      obtain ⟨v, ev⟩ := has_rs S hh
      refine ⟨v, ev, ?_⟩
      refine rdBAw (bBA postBA S h) fun vs H2 ⟨Hk2, xs, ρ2, x2, S2, r2, h2⟩ => ?_
      exact h2 _ _ _ (Ex.refl _) S2.1 ⟨v, vs, rfl, ev, r2⟩
    · exact h.elim
end
theorem fill_at {K : PySem.W.Frag} {Hk : Hp} {σ : St} {ρ : Env} : ∀ {args : List BA} {vs : List V} {xs : List MV}, BVs K Hk σ args vs → fill args ρ = some xs → ∀ (j : Nat) (x : MV), xs[j]? = some x →
    ∃ v, vs[j]? = some v ∧ ((args[j]? = some (.v x) ∧ RV K Hk x v) ∨ ∃ i, args[j]? = some (.b i) ∧ ρ[i]? = some (some x) ∧ σ[i]? = some (some v) ∧ x.held = true)
  | [], vs, xs, r, f, j, x, h => by cases f; simp at h
  | .v y :: args, vs, xs, r, f, j, x, h => by
    obtain ⟨v, us, rfl, r1, r2⟩ := r
    unfold fill at f
    cases e : fill args ρ with
    | none => rw [e] at f; cases f
    | some zs =>
      rw [e] at f
      cases f
      match j with
      | 0 => simp at h; subst h; exact ⟨v, rfl, .inl ⟨rfl, r1⟩⟩
      | j + 1 => simpa using fill_at r2 e j x (by simpa using h)
  | .b i :: args, vs, xs, r, f, j, x, h => by
    obtain ⟨v, us, rfl, r1, r2⟩ := r
    unfold fill at f
    split at f
    · rename_i y zs e1 e2
      split at f
      · rename_i hh
        cases f
        match j with
        | 0 => simp at h; subst h; exact ⟨v, rfl, .inr ⟨i, rfl, e1, r1, hh⟩⟩
        | j + 1 => simpa using fill_at r2 e2 j x (by simpa using h)
      · cases f
    · cases f
theorem fill_len {ρ : Env} : ∀ {args : List BA} {xs : List MV}, fill args ρ = some xs → xs.length = args.length
  | [], xs, f => by cases f; rfl
  | .v y :: args, xs, f => by
    unfold fill at f
    cases e : fill args ρ with
    | none => rw [e] at f; cases f
    | some zs => rw [e] at f; cases f; simp [fill_len e]
  | .b i :: args, xs, f => by
    unfold fill at f
    split at f
    · rename_i y zs e1 e2
      split at f
      · cases f; simp [fill_len e2]
      · cases f
    · cases f
theorem fill_has {ρ : Env} : ∀ {args : List BA} {xs : List MV}, fill args ρ = some xs → ∀ i ∈ idxB args, ∃ x, ρ[i]? = some (some x) ∧ x.held = true
  | [], xs, f, i, h => by cases h
  | .v y :: args, xs, f, i, h => by
    unfold fill at f
    cases e : fill args ρ with
    | none => rw [e] at f; cases f
    | some zs => exact fill_has e i h
  | .b k :: args, xs, f, i, h => by
    unfold fill at f
    split at f
    · rename_i y zs e1 e2
      split at f
      · rename_i hh
        rcases List.mem_cons.mp h with rfl | h
        · exact ⟨y, e1, hh⟩
        · exact fill_has e2 i h
      · cases f
    · cases f
theorem idx_mem : ∀ {args : List BA} {j i : Nat}, args[j]? = some (.b i) → i ∈ idxB args
  | [], j, i, h => by simp at h
  | .v y :: args, 0, i, h => by simp at h
  | .v y :: args, j + 1, i, h => idx_mem (args := args) (j := j) (by simpa using h)
  | .b k :: args, 0, i, h => by simp at h; subst h; simp [idxB]
  | .b k :: args, j + 1, i, h => List.mem_cons_of_mem _ (idx_mem (args := args) (j := j) (by simpa using h))
theorem idx_inj : ∀ {args : List BA} {j k i : Nat}, (idxB args).Nodup → args[j]? = some (.b i) → args[k]? = some (.b i) → j = k
  | [], j, k, i, _, h, _ => by simp at h
  | .v y :: args, 0, k, i, _, h, _ => by simp at h
  | .v y :: args, _ + 1, 0, i, _, _, h => by simp at h
  | .v y :: args, j + 1, k + 1, i, nd, h1, h2 => by have := idx_inj (args := args) (j := j) (k := k) (i := i) nd (by simpa using h1) (by simpa using h2); omega
  | .b n :: args, 0, 0, i, _, _, _ => rfl
  | .b n :: args, 0, k + 1, i, nd, h1, h2 => by
    simp at h1; subst h1
    exact absurd (idx_mem (args := args) (j := k) (by simpa using h2)) (List.nodup_cons.mp nd).1
  | .b n :: args, j + 1, 0, i, nd, h1, h2 => by
    simp at h2; subst h2
    exact absurd (idx_mem (args := args) (j := j) (by simpa using h1)) (List.nodup_cons.mp nd).1
  | .b n :: args, j + 1, k + 1, i, nd, h1, h2 => by have := idx_inj (args := args) (j := j) (k := k) (i := i) (List.nodup_cons.mp nd).2 (by simpa using h1) (by simpa using h2); omega
def addrOf : V → Addr
  | .ref a => a
  | _ => 0
def bqOf : List BA → List V → Nat → List (Nat × Addr)
  | .v _ :: r, _ :: us, k => bqOf r us (k + 1)
  | .b _ :: r, v :: us, k => (k, addrOf v) :: bqOf r us (k + 1)
  | _, _, _ => []
theorem bq_pos {K : PySem.W.Frag} {Hk : Hp} {σ : St} : ∀ {args : List BA} {vs : List V} (k : Nat), BVs K Hk σ args vs → (bqOf args vs k).map (·.1) = posB args k
  | [], vs, k, _ => by cases vs <;> rfl
  | .v y :: args, vs, k, ⟨v, us, e, _, r⟩ => by subst e; exact bq_pos (k + 1) r
  | .b i :: args, vs, k, ⟨v, us, e, _, r⟩ => by subst e; show k :: _ = k :: _; rw [bq_pos (k + 1) r]
theorem bq_idx {K : PySem.W.Frag} {Hk : Hp} {σ : St} : ∀ {args : List BA} {vs : List V} (k : Nat), BVs K Hk σ args vs → (∀ i ∈ idxB args, ∃ a, σ[i]? = some (some (.ref a))) → (bqOf args vs k).map (fun q => some (V.ref q.2)) = (idxB args).map fun i => (σ[i]?).join
  | [], vs, k, _, _ => by cases vs <;> rfl
  | .v y :: args, vs, k, ⟨v, us, e, _, r⟩, h => by subst e; exact bq_idx (k + 1) r h
  | .b i :: args, vs, k, ⟨v, us, e, e2, r⟩, h => by
    subst e
    obtain ⟨a, ha⟩ := h i (by simp [idxB])
    rw [ha] at e2
    cases e2
    show some (V.ref a) :: _ = (σ[i]?).join :: _
    rw [ha, bq_idx (k + 1) r fun j hj => h j (by simp [idxB, hj])]; rfl
theorem bq_bor {K : PySem.W.Frag} {Hk : Hp} {σ : St} : ∀ {args : List BA} {vs : List V} (k : Nat), BVs K Hk σ args vs → (∀ i ∈ idxB args, ∃ a, σ[i]? = some (some (.ref a))) → ∀ q ∈ bqOf args vs k, k ≤ q.1 ∧ vs[q.1 - k]? = some (.ref q.2)
  | [], vs, k, _, _, q, hq => by cases vs <;> cases hq
  | .v y :: args, vs, k, ⟨v, us, e, _, r⟩, h, q, hq => by
    subst e
    obtain ⟨h1, h2⟩ := bq_bor (k + 1) r h q hq
    refine ⟨by omega, ?_⟩
    rw [show q.1 - k = q.1 - (k + 1) + 1 by omega]; exact h2
  | .b i :: args, vs, k, ⟨v, us, e, e2, r⟩, h, q, hq => by
    subst e
    obtain ⟨a, ha⟩ := h i (by simp [idxB])
    rw [ha] at e2
    cases e2
    rcases List.mem_cons.mp hq with rfl | hq
    · exact ⟨Nat.le_refl _, by simp [addrOf]⟩
    · obtain ⟨h1, h2⟩ := bq_bor (k + 1) r (fun j hj => h j (by simp [idxB, hj])) q hq
      refine ⟨by omega, ?_⟩
      rw [show q.1 - k = q.1 - (k + 1) + 1 by omega]; exact h2
theorem back_len : ∀ {is : List Nat} {ρ os : Env}, (back ρ is os).length = ρ.length
  | [], _, _ => rfl
  | i :: is, ρ, os => by unfold back; rw [back_len, List.length_set]
theorem back_ne : ∀ {is : List Nat} {ρ os : Env} {j : Nat}, j ∉ is → (back ρ is os)[j]? = ρ[j]?
  | [], _, _, _, _ => rfl
  | i :: is, ρ, os, j, h => by
    unfold back
    rw [back_ne (fun z => h (List.mem_cons_of_mem _ z)), List.getElem?_set_ne (fun z => h (by simp [z]))]
theorem back_at : ∀ {is : List Nat} {ρ os : Env} {k i : Nat}, is.Nodup → is[k]? = some i → i < ρ.length → (back ρ is os)[i]? = some (os[k]?).join
  | [], _, _, _, _, _, h, _ => by simp at h
  | n :: is, ρ, os, 0, i, nd, h, hl => by
    simp at h; subst h
    unfold back
    rw [back_ne (List.nodup_cons.mp nd).1, List.getElem?_set_self hl]
    cases os <;> rfl
  | n :: is, ρ, os, k + 1, i, nd, h, hl => by
    unfold back
    rw [back_at (is := is) (k := k) (List.nodup_cons.mp nd).2 (by simpa using h) (by simpa using hl)]
    cases os <;> simp
end Tm
set_option Elab.async false
set_option linter.all false
set_option maxRecDepth 100000
set_option maxHeartbeats 2000000
namespace Tm
open PySem L2
open Evl (Ex ex_rd ex_l ex_t)
theorem held_ref {K : PySem.W.Frag} {Hk H : Hp} {x : MV} {v : V} {A : List Addr} (h : x.held = true) (o : OV K Hk H x v A) : ∃ a, v = .ref a := by
  cases x with
  | own xs => obtain ⟨p, vs, e, _⟩ := OV.own.mp o; exact ⟨p, e⟩
  | obj C fs =>
    unfold OV at o
    obtain ⟨p, CA, dx, vfs, B, e, _⟩ := o
    exact ⟨p, e⟩
  | _ => cases h
section
variable {c : Ct} {F Hk H : Hp} {bp : List (Nat × Addr)} {σ : St} {ρ : Env} {args : List BA} {vs : List V} {xs : List MV} {ow : Nat → List Addr}
def owB (is : List Nat) (ow ow2 : Nat → List Addr) (j : Nat) : List Addr := if j ∈ is then ow2 (is.idxOf j) else ow j
theorem callB_end {f : MF} {n : Nat} {bs : List Nat} {Q : VK} {E : XK} (S : At c F Hk H bp σ ρ) (r : BVs c.K Hk σ args vs) (hn : args.length = n) (nd : (idxB args).Nodup) (hbs : posB args 0 = bs) (hf : fill args ρ = some xs)
    (hE : ∀ e ρ', (∀ Hk' H' cls d, Ex Hk Hk' → RS c.K F Hk' H' bp σ ρ' → ExR c.K c.mg Hk' e cls d → c.W cls d σ H') → ∀ Hk' H' cls d, Ex Hk Hk' → RS c.K F Hk' H' bp σ ρ' → ExR c.K c.mg Hk' e cls d → E cls d H')
    (h : okO c F Hk bp σ Q (match f xs with | .ok (v, os) => .ok (v, back ρ (idxB args) os) | .exc e os => .exc e (back ρ (idxB args) os) | .stuck => .stuck)) : spF c.K c.mg n bs f vs H Q E := by
  refine ⟨by rw [r.length]; exact hn, ?_⟩
  obtain ⟨ow, s⟩ := S.1.ow
  have ih := fill_has hf
  have refs : ∀ i ∈ idxB args, ∃ a, σ[i]? = some (some (.ref a)) := fun i hi => by
    obtain ⟨x, ex, hx⟩ := ih i hi
    obtain ⟨v, ev, o⟩ := s.s i x ex
    obtain ⟨a, rfl⟩ := held_ref hx o
    exact ⟨a, ev⟩
  have lti : ∀ i ∈ idxB args, i < ρ.length := fun i hi => by
    obtain ⟨x, ex, _⟩ := ih i hi
    exact lt_get ex
  haveI : ∀ a, Decidable (∃ i, i ∉ idxB args ∧ a ∈ ow i) := fun a => Classical.propDecidable _
  have fN : ∃ F' : Hp, (∀ i a, i ∉ idxB args → a ∈ ow i → F' a = H a) ∧ (∀ a o, F a = some o → F' a = some o) ∧ (∀ a o, F' a = some o → H a = some o ∧ Hk a = none) ∧ (∀ i a, i ∈ idxB args → a ∈ ow i → F' a = none) := by
    refine ⟨fun a => if (∃ i, i ∉ idxB args ∧ a ∈ ow i) then H a else F a, fun i a hi ha => if_pos ⟨i, hi, ha⟩, fun a o ha => ?_, fun a o ha => ?_, fun i a hi ha => ?_⟩
    · have : ¬ ∃ i, i ∉ idxB args ∧ a ∈ ow i := fun ⟨i, _, hi⟩ => by have := (s.f i a hi).2.1; rw [ha] at this; cases this
      show (if (∃ i, i ∉ idxB args ∧ a ∈ ow i) then H a else F a) = some o
      rw [if_neg this]; exact ha
    · have ha : (if (∃ i, i ∉ idxB args ∧ a ∈ ow i) then H a else F a) = some o := ha
      by_cases e : ∃ i, i ∉ idxB args ∧ a ∈ ow i
      · rw [if_pos e] at ha
        obtain ⟨i, _, hi⟩ := e
        exact ⟨ha, (s.f i a hi).1⟩
      · rw [if_neg e] at ha
        exact ⟨S.1.fr a o ha, S.1.frk a o ha⟩
    · have : ¬ ∃ i, i ∉ idxB args ∧ a ∈ ow i := fun ⟨k, hk, hka⟩ => s.d i k a (fun z => hk (z ▸ hi)) ha hka
      show (if (∃ i, i ∉ idxB args ∧ a ∈ ow i) then H a else F a) = none
      rw [if_neg this]; exact (s.f i a ha).2.1
  obtain ⟨F', f1, f2, f3, f4⟩ := fN
  have hlv : vs.length = xs.length := by rw [r.length, fill_len hf]
  have at_ : ∀ {j i : Nat} {a : Addr}, a ∈ (match args[j]? with | some (BA.b i) => ow i | _ => []) → ∃ i, args[j]? = some (.b i) ∧ a ∈ ow i := fun {j i a} h => by
    split at h
    · rename_i k e; exact ⟨k, e, h⟩
    · cases h
  refine ⟨F', Hk, bqOf args vs 0, xs, ?_, by rw [bq_pos 0 r, hbs], ?_⟩
  · refine ⟨by simp [hlv], S.1.ex, fun a o ha => (f3 a o ha).1, fun a o ha => (f3 a o ha).2, ⟨fun j => match args[j]? with | some (BA.b i) => ow i | _ => [], ?_⟩, fun q hq => ?_⟩
    · refine ⟨fun j y hj => ?_, fun j a hj => ?_, fun j hj => ?_, fun j k a hjk h1 h2 => ?_⟩
      · rw [List.getElem?_map] at hj
        cases ex : xs[j]? with
        | none => rw [ex] at hj; cases hj
        | some x =>
          rw [ex] at hj
          cases hj
          obtain ⟨v, ev, hv⟩ := fill_at r hf j y ex
          refine ⟨v, by rw [List.getElem?_map, ev]; rfl, ?_⟩
          rcases hv with ⟨e1, r1⟩ | ⟨i, e1, e2, e3, _⟩
          · rw [e1]; exact r1.ov
          · rw [e1]
            obtain ⟨u, eu, ou⟩ := s.s i y e2
            rw [e3] at eu
            cases eu
            exact ou
      · obtain ⟨i, e1, hi⟩ := at_ (i := 0) hj
        obtain ⟨g1, g2, g3⟩ := s.f i a hi
        exact ⟨g1, f4 i a (idx_mem e1) hi, g3⟩
      · cases e : args[j]? with
        | none => rw [e] at hj; exact (hj rfl).elim
        | some b =>
          have := lt_get e
          rw [List.length_map, fill_len hf]; exact this
      · obtain ⟨i1, e1, m1⟩ := at_ (i := 0) h1
        obtain ⟨i2, e2, m2⟩ := at_ (i := 0) h2
        by_cases e : i1 = i2
        · subst e; exact hjk (idx_inj nd e1 e2)
        · exact s.d i1 i2 a e m1 m2
    · obtain ⟨_, h2⟩ := bq_bor 0 r refs q hq
      rw [List.getElem?_map, show vs[q.1]? = some (.ref q.2) from h2]; rfl
  -- what stands behind the call
  have bidx := bq_idx (k := 0) r refs
  have main : ∀ {Hk' H' : Hp} {τ : St} {os υ : Env}, Ex Hk Hk' → RS c.K F' Hk' H' [] ((idxB args).map (fun i => (σ[i]?).join) ++ τ) (os ++ υ) → os.length = (idxB args).length → ∀ ow2, SL c.K F' Hk' H' ow2 ((idxB args).map (fun i => (σ[i]?).join) ++ τ) (os ++ υ) →
      SL c.K F Hk' H' (owB (idxB args) ow ow2) σ (back ρ (idxB args) os) ∧ RS c.K F Hk' H' bp σ (back ρ (idxB args) os) := fun {Hk' H' τ os υ} x S' hos ow2 s2 => by
    have other : ∀ j, j ∉ idxB args → ∀ a ∈ ow j, F' a = H a ∧ ∃ o, H a = some o ∧ H' a = some o ∧ Hk' a = none := fun j hj a ha => by
      obtain ⟨g1, g2, o, g3⟩ := s.f j a ha
      have q : F' a = some o := (f1 j a hj ha).trans g3
      exact ⟨f1 j a hj ha, o, g3, S'.fr a o q, S'.frk a o q⟩
    have idl : ∀ j ∈ idxB args, (idxB args).idxOf j < (idxB args).length := fun j hj => List.idxOf_lt_length_of_mem hj
    have idg : ∀ j ∈ idxB args, (idxB args)[(idxB args).idxOf j]? = some j := fun j hj => by
      rw [List.getElem?_eq_getElem (idl j hj), List.getElem_idxOf]
    have inj : ∀ j k, j ∈ idxB args → k ∈ idxB args → (idxB args).idxOf j = (idxB args).idxOf k → j = k := fun j k hj hk e => by
      have a := idg j hj
      have b := idg k hk
      rw [e, b] at a
      cases a; rfl
    have sl : SL c.K F Hk' H' (owB (idxB args) ow ow2) σ (back ρ (idxB args) os) := by
      refine ⟨fun j y hj => ?_, fun j a hj => ?_, fun j hj => ?_, fun j k a hjk h1 h2 => ?_⟩
      · unfold owB
        by_cases e : j ∈ idxB args
        · rw [if_pos e]
          rw [back_at nd (idg j e) (lti j e)] at hj
          have lk := idl j e
          have gk := idg j e
          generalize (idxB args).idxOf j = k at hj lk gk ⊢
          have ek : os[k]? = some (some y) := by
            cases eo : os[k]? with
            | none => rw [eo] at hj; cases hj
            | some o => rw [eo] at hj; cases o with
              | none => cases hj
              | some z => cases hj; rfl
          obtain ⟨u, eu, ou⟩ := s2.s k y (by rw [List.getElem?_append_left (by rw [hos]; exact lk)]; exact ek)
          rw [List.getElem?_append_left (by simpa using lk), List.getElem?_map] at eu
          refine ⟨u, ?_, ou⟩
          obtain ⟨a, ha⟩ := refs j e
          rw [gk, Option.map_some, ha] at eu
          rw [ha]
          exact eu
        · rw [if_neg e]
          rw [back_ne e] at hj
          obtain ⟨u, e1, o1⟩ := s.s j y hj
          refine ⟨u, e1, o1.move x fun a ha o ho => ?_⟩
          obtain ⟨_, o', g1, g2, _⟩ := other j e a ha
          rw [ho] at g1; cases g1; exact g2
      · unfold owB at hj
        by_cases e : j ∈ idxB args
        · rw [if_pos e] at hj
          obtain ⟨g1, g2, g3⟩ := s2.f _ a hj
          refine ⟨g1, ?_, g3⟩
          cases ef : F a with
          | none => rfl
          | some o => rw [f2 a o ef] at g2; cases g2
        · rw [if_neg e] at hj
          obtain ⟨_, o', g1, g2, g3⟩ := other j e a hj
          exact ⟨g3, (s.f j a hj).2.1, o', g2⟩
      · unfold owB at hj
        rw [back_len]
        by_cases e : j ∈ idxB args
        · exact lti j e
        · rw [if_neg e] at hj; exact s.w j hj
      · unfold owB at h1 h2
        by_cases e1 : j ∈ idxB args <;> by_cases e2 : k ∈ idxB args
        · rw [if_pos e1] at h1; rw [if_pos e2] at h2
          exact s2.d _ _ a (fun z => hjk (inj j k e1 e2 z)) h1 h2
        · rw [if_pos e1] at h1; rw [if_neg e2] at h2
          obtain ⟨q, o', g1, _⟩ := other k e2 a h2
          have := (s2.f _ a h1).2.1
          rw [q, g1] at this; cases this
        · rw [if_neg e1] at h1; rw [if_pos e2] at h2
          obtain ⟨q, o', g1, _⟩ := other j e1 a h1
          have := (s2.f _ a h2).2.1
          rw [q, g1] at this; cases this
        · rw [if_neg e1] at h1; rw [if_neg e2] at h2
          exact s.d j k a hjk h1 h2
    exact ⟨sl, by rw [back_len]; exact S.1.len, S'.ex, fun a o ha => S'.fr a o (f2 a o ha), fun a o ha => S'.frk a o (f2 a o ha), ⟨_, sl⟩, S.1.bor⟩
  rw [bidx]
  cases ef : f xs with
  | stuck => rw [ef] at h; exact h.elim
  | exc e os =>
    rw [ef] at h
    intro Hk' H' cls d x S' er
    obtain ⟨ow2, s2⟩ := S'.ow
    have hos : os.length = (idxB args).length := by have := S'.len; simpa using this.symm
    have m := main (τ := []) (υ := []) x (by simpa using S') hos ow2 (by simpa using s2)
    exact hE e _ h Hk' H' cls d x m.2 er
  | ok p =>
    obtain ⟨v, os⟩ := p
    rw [ef] at h
    intro Hk' H' w x S'
    obtain ⟨ow2, s2⟩ := S'.ow
    have hos : os.length = (idxB args).length := by have := S'.len; simpa using this.symm
    obtain ⟨sl, R1⟩ := main x S' hos ow2 s2
    obtain ⟨u, eu, ou⟩ := s2.s os.length v (by simp)
    have : u = w := by
      rw [hos, List.getElem?_append_right (by simp)] at eu
      simpa using eu.symm
    subst this
    refine h Hk' H' u x ?_
    refine ⟨by simp [back_len, S.1.len], R1.ex, R1.fr, R1.frk, ⟨_, sl.push (by rw [back_len]; exact S.1.len) ou (fun a ha => ?_) (fun i a ha hi => ?_)⟩, R1.bor_app _⟩
    · obtain ⟨g1, g2, _⟩ := s2.f _ a ha
      refine ⟨g1, ?_⟩
      cases e : F a with
      | none => rfl
      | some o => rw [f2 a o e] at g2; cases g2
    · obtain ⟨g1, g2, o, g3⟩ := s2.f _ a ha
      unfold owB at hi
      by_cases e : i ∈ idxB args
      · rw [if_pos e] at hi
        have lk := List.idxOf_lt_length_of_mem e
        exact s2.d _ _ a (by omega) ha hi
      · rw [if_neg e] at hi
        obtain ⟨_, _, o', q⟩ := s.f i a hi
        rw [f1 i a e hi, q] at g2
        cases g2
end
def Bsh (a : MB) (k : Nat) (is bs : List Nat) (n : Nat) : Prop := ∀ ρ xs ρ', a ρ = .ok (xs, ρ') → idxB xs = is ∧ posB xs k = bs ∧ xs.length = n
theorem bsh_nil {k : Nat} : Bsh mbNil k [] [] 0 := fun ρ xs ρ' h => by cases h; exact ⟨rfl, rfl, rfl⟩
theorem bsh_v {a : ME} {b : MB} {k n : Nat} {is bs : List Nat} (h : Bsh b (k + 1) is bs n) : Bsh (mbV a b) k is bs (n + 1) := fun ρ xs ρ' e => by
  unfold mbV at e
  cases ea : a ρ with
  | stuck => rw [ea] at e; cases e
  | exc x r => rw [ea] at e; cases e
  | ok p =>
    rw [ea] at e
    have e : (b p.2).bind (fun ys ρ2 => Res.ok (BA.v p.1 :: ys, ρ2)) = .ok (xs, ρ') := e
    cases eb : b p.2 with
    | stuck => rw [eb] at e; cases e
    | exc x r => rw [eb] at e; cases e
    | ok q =>
      rw [eb] at e
      cases e
      obtain ⟨h1, h2, h3⟩ := h _ _ _ eb
      exact ⟨h1, h2, by simp [h3]⟩
theorem bsh_b {i : Nat} {b : MB} {k n : Nat} {is bs : List Nat} (h : Bsh b (k + 1) is bs n) : Bsh (mbB i b) k (i :: is) (k :: bs) (n + 1) := fun ρ xs ρ' e => by
  unfold mbB at e
  split at e
  · cases eb : b ρ with
    | stuck => rw [eb] at e; cases e
    | exc x r => rw [eb] at e; cases e
    | ok q =>
      rw [eb] at e
      cases e
      obtain ⟨h1, h2, h3⟩ := h _ _ _ eb
      exact ⟨by show i :: _ = _; rw [h1], by show k :: _ = _; rw [h2], by simp [h3]⟩
  · cases e
def cbE (f : MF) (args : List BA) (ρ : Env) : Res (MV × Env) := match fill args ρ with
  | some xs => (match f xs with | .ok (v, os) => .ok (v, back ρ (idxB args) os) | .exc e os => .exc e (back ρ (idxB args) os) | .stuck => .stuck)
  | none => .stuck
def mCallB (f : MF) (a : MB) : ME := fun ρ => (a ρ).bind (cbE f)
section
variable {X : Cx} {c : Ct} {k : Nat} {fa : Addr} {fd : FuncData} {ps : List Str} {x : Str} {p pos : Pos} {e : Expr} {es : List Expr} {f : MF} {a : MB} {n : Nat} {is bs : List Nat}
theorem rd_callB (sh : Bsh a 0 is bs n) (nd : is.Nodup) {σ : St} {H : Hp} {Q : VK} (h : rdO c (mCallB f a) σ H Q) : tCallS (spF c.K c.mg n bs f) (WE c.W) (rdBA c a) σ H Q := by
  obtain ⟨F, Hk, bp, ρ, S, h⟩ := h
  refine ⟨F, Hk, bp, ρ, S, ?_⟩
  have h : okO c F Hk bp σ Q ((a ρ).bind (cbE f)) := h
  cases e : a ρ with
  | stuck => rw [e] at h; exact h
  | exc x ρ' => rw [e] at h; exact h
  | ok q =>
    obtain ⟨args, ρ1⟩ := q
    rw [e] at h
    intro Hk1 H1 vs x1 S1 r1
    have h : okO c F Hk1 bp σ Q (cbE f args ρ1) := okO.mono x1 h
    unfold cbE at h
    obtain ⟨q1, q2, q3⟩ := sh _ _ _ e
    cases ef : fill args ρ1 with
    | none => rw [ef] at h; exact h.elim
    | some xs =>
      rw [ef] at h
      exact callB_end ⟨S1, S.2⟩ r1 q3 (by rw [q1]; exact nd) q2 ef (fun e ρ' q => q) h
theorem mo_callB (F : FnOk X.prog X.w X.K X.mg X.base (L2N.CX X.prog X.w) k fa fd ps (spF X.K X.mg n bs f)) (hr : Room k X.A) (hm : X.mg x = some (.ref fa)) (hk : PySem.W.keepIn X.K (.ref fa) = true) (hb : Binds X.K fd ps []) (tk : L2N.Takes X c.W)
    (ha : PA X (e :: es) (rdBA c a)) (sh : Bsh a 0 is bs n) (nd : is.Nodup := by decide) (hg : Gl X x := by rfl) (hK : c.K = X.K := by rfl) (hM : c.mg = X.mg := by rfl) (hdb : (x == ("__debug__" : Str)) = false := by decide) (he : starEach (e :: es) X.env = (false, eval e X.env) :: starEach es X.env := by rfl)
    (hpl : (backTo pos (starEach es X.env)).any (·.1) = false := by rfl) : PE X (.Call (.Name x p) (e :: es) [] pos) (rdO c (mCallB f a)) :=
  PEw (pe_callS (E := WE c.W) F hr hg hm hk hb (fun σ => L2N.passAt tk σ) ha hdb he hpl) fun σ H Q h => by
    have := rd_callB sh nd h
    rw [hK, hM] at this
    exact this
theorem mf_callB {j : Nat} (G : Fd X.prog X.w X.K X.mg X.base x k ps bs f) (hr : Room j X.A) (hj : k ≤ j) (tk : L2N.Takes X c.W) (ha : PA X (e :: es) (rdBA c a)) (sh : Bsh a 0 is bs ps.length) (nd : is.Nodup := by decide) (hg : Gl X x := by rfl) (hK : c.K = X.K := by rfl) (hM : c.mg = X.mg := by rfl) (hdb : (x == ("__debug__" : Str)) = false := by decide)
    (he : starEach (e :: es) X.env = (false, eval e X.env) :: starEach es X.env := by rfl) (hpl : (backTo pos (starEach es X.env)).any (·.1) = false := by rfl) : PE X (.Call (.Name x p) (e :: es) [] pos) (rdO c (mCallB f a)) := by
  obtain ⟨fa, fd, F, hm, hk, hb⟩ := G.ex
  exact mo_callB F (hr.mono hj) hm hk hb tk ha sh nd hg hK hM hdb he hpl
end
end Tm
set_option Elab.async false
set_option linter.all false
set_option maxRecDepth 100000
set_option maxHeartbeats 2000000
namespace Tm
open PySem L2
open Evl (Ex ex_rd ex_l ex_t)
def putM (f : Str) (v : MV) : List (Str × MV) → List (Str × MV)
  | [] => [(f, v)]
  | (g, x) :: r => if g = f then (g, v) :: r else (g, x) :: putM f v r
theorem look_eq {α : Type} {f g : Str} {x : α} {r : List (Str × α)} : ((g, x) :: r).lookup f = if g = f then some x else r.lookup f := by
  rw [List.lookup_cons]
  by_cases e : g = f
  · subst e; simp
  · rw [if_neg e]
    have : (f == g) = false := by simpa using fun z => e z.symm
    rw [this]
section
variable {K : PySem.W.Frag} {Hk H : Hp}
theorem OFs.fresh : ∀ {fs : List (Str × MV)} {vfs : List (Str × V)} {B : List Addr} {f : Str}, OFs K Hk H fs vfs B → fs.lookup f = none → vfs.lookup f = none ∧
    ∀ (Hk' H' : Hp) (x' : MV) (v' : V) (A1' : List Addr), Ex Hk Hk' → (∀ a ∈ B, ∀ o, H a = some o → H' a = some o) → OF K Hk' H' x' v' A1' → OFs K Hk' H' (putM f x' fs) (putF f v' vfs) (B ++ A1')
  | [], vfs, B, f, ⟨e1, e2⟩, _ => by
    subst e1 e2
    exact ⟨rfl, fun Hk' H' x' v' A1' ex k o' => ⟨v', [], A1', [], rfl, by simp, o', rfl, rfl⟩⟩
  | (n, y) :: fs, vfs, B, f, ⟨v, r, C, D, e1, e2, o1, o2⟩, h => by
    subst e1 e2
    rw [look_eq] at h
    by_cases e : n = f
    · rw [if_pos e] at h; cases h
    · rw [if_neg e] at h
      obtain ⟨g1, g4⟩ := OFs.fresh o2 h
      refine ⟨by rw [look_eq, if_neg e]; exact g1, fun Hk' H' x' v' A1' ex k o' => ?_⟩
      unfold putM putF
      rw [if_neg e, if_neg e]
      exact ⟨v, _, C, D ++ A1', rfl, by simp, o1.move ex fun a ha => k a (by simp [ha]), g4 Hk' H' x' v' A1' ex (fun a ha => k a (by simp [ha])) o'⟩
theorem OFs.len : ∀ {fs : List (Str × MV)} {vfs : List (Str × V)} {B : List Addr}, OFs K Hk H fs vfs B → vfs.length = fs.length
  | [], vfs, B, ⟨e1, _⟩ => by rw [e1]; rfl
  | _ :: fs, vfs, B, ⟨v, r, C, D, e1, e2, o1, o2⟩ => by rw [e1, List.length_cons, List.length_cons, o2.len]
theorem OV.obj {C : Str} {fs : List (Str × MV)} {v : V} {A : List Addr} : OV K Hk H (.obj C fs) v A ↔ ∃ p CA dx vfs B, v = .ref p ∧ A = p :: B ∧ PySem.W.nsIn K mainGlobals C = some (some (.ref CA)) ∧ H p = some (.ins CA dx vfs) ∧ OFs K Hk H fs vfs B ∧ (p :: B).Nodup := by
  unfold OV; rfl
theorem OF.own {xs : List MV} {v : V} {A : List Addr} : OF K Hk H (.own xs) v A ↔ ∃ p vs, v = .ref p ∧ A = [p] ∧ H p = some (.lst vs) ∧ RVs K Hk xs vs := by
  unfold OF; rfl
end
structure ObC (K : PySem.W.Frag) (C : Str) (fs : List Str) : Prop where
  ex : ∀ CA, PySem.W.nsIn K mainGlobals C = some (some (.ref CA)) → Cls K CA ∧ ∀ f ∈ fs, NoAttr K CA f
end Tm
set_option Elab.async false
set_option linter.all false
set_option maxRecDepth 100000
set_option maxHeartbeats 2000000
namespace Tm
open PySem L2
open Evl (Ex ex_rd ex_l ex_t)
structure ObM (P : Program) (w : World) (K : PySem.W.Frag) (mg : Str → Option Value) (base : Heap) (C m : Str) (k : Nat) (ps : List Str) (bs : List Nat) (f : MF) : Prop where
  ex : ∃ CA g fd, PySem.W.nsIn K mainGlobals C = some (some (.ref CA)) ∧ Cls K CA ∧ Meth K CA m g ∧ FnOk P w K mg base (L2N.CX P w) k g fd ps (spF K mg ps.length bs f) ∧ Binds K fd ps []
structure ObN (P : Program) (w : World) (K : PySem.W.Frag) (mg : Str → Option Value) (base : Heap) (C : Str) (k : Nat) (f : MF) : Prop where
  ex : ∃ CA g fd ps, PySem.W.nsIn K mainGlobals C = some (some (.ref CA)) ∧ mg C = some (.ref CA) ∧ Mk K CA g ∧ FnOk P w K mg base (L2N.CX P w) k g fd ps (spF K mg 1 [0] f) ∧ Binds K fd ps []
end Tm
set_option Elab.async false
set_option linter.all false
set_option maxRecDepth 100000
set_option maxHeartbeats 2000000
namespace Tm
open PySem L2
open Evl (Ex ex_rd ex_l ex_t)
def FnA (K : PySem.W.Frag) (a : Addr) : Prop := ∃ o, K.lookup a = some o ∧ o.cls = .type "function"
theorem FnA.ty {X : Cx} {pins : List (Addr × Obj)} {σ : St} {H : Hp} {s : Shared} {a : Addr} (I : Inv X pins σ H s) (h : FnA X.K a) : s.TypeIs (.ref a) "function" := by
  obtain ⟨o, h1, h2⟩ := h
  exact ⟨o, I.kIn _ _ h1, h2⟩
structure FnI (K : PySem.W.Frag) (N : List Str) : Prop where
  fn : ∀ x ∈ N, ∀ a, PySem.W.nsIn K mainGlobals x = some (some (.ref a)) → FnA K a
  inj : ∀ x ∈ N, ∀ y ∈ N, ∀ a, PySem.W.nsIn K mainGlobals x = some (some (.ref a)) → PySem.W.nsIn K mainGlobals y = some (some (.ref a)) → x = y
structure FnT (P : Program) (w : World) (K : PySem.W.Frag) (mg : Str → Option Value) (base : Heap) (T : List (Str × MF)) : Prop where
  ex : ∀ x f, T.lookup x = some f → ∀ a, PySem.W.nsIn K mainGlobals x = some (some (.ref a)) → ∃ fd ps, FnOk P w K mg base (L2N.CX P w) 2 a fd ps (spF K mg 1 [] f) ∧ PySem.W.keepIn K (.ref a) = true ∧ Binds K fd ps []
theorem vals_refs : ∀ {as : List Addr} {us : List Value}, Vals (as.map V.ref) us → us = as.map Value.ref
  | [], us, h => by cases h; rfl
  | a :: as, us, h => by
    cases h with
    | cons r t => cases r; rw [vals_refs t]; rfl
end Tm
set_option Elab.async false
set_option linter.all false
set_option maxRecDepth 100000
set_option maxHeartbeats 2000000
namespace Tm
open PySem L2
open Evl (Ex ex_rd ex_l ex_t)
section
variable {X : Cx} {c : Ct} {C x f : Str} {fl : List Str} {i : Nat} {p p2 pos apos cpos : Pos} {e : Expr} {es : List Expr}
structure FnG (K : PySem.W.Frag) (mg : Str → Option Value) (x : Str) : Prop where
  ex : ∃ a, mg x = some (.ref a) ∧ PySem.W.nsIn K mainGlobals x = some (some (.ref a))
end
end Tm
set_option Elab.async false
set_option linter.all false
set_option maxRecDepth 100000
set_option maxHeartbeats 2000000
namespace Tm
open PySem L2
open Evl (Ex ex_rd ex_l ex_t)
structure ObX (P : Program) (w : World) (K : PySem.W.Frag) (mg : Str → Option Value) (base : Heap) (C m : Str) (k : Nat) (ps : List Str) (sp : Sp) : Prop where
  ex : ∃ CA g fd, PySem.W.nsIn K mainGlobals C = some (some (.ref CA)) ∧ Cls K CA ∧ Meth K CA m g ∧ FnOk P w K mg base (L2N.CX P w) k g fd ps sp ∧ Binds K fd ps []
end Tm
set_option Elab.async false
set_option linter.all false
set_option maxRecDepth 100000
set_option maxHeartbeats 2000000
namespace Tm
open PySem L2
theorem nr {α : Sort _} {a b : α} (h : a = b) : a = b := h
section
variable {α β : Type} {a b : ME} {ρ ρ1 : Env} {r : Option MV} {x y z : MV}
@[simp] theorem bind_ok {x : α} {f : α → Env → Res (β × Env)} : (Res.ok (x, ρ)).bind f = f x ρ := nr rfl
@[simp] theorem bind_exc {e : MX} {f : α → Env → Res (β × Env)} : (Res.exc e ρ : Res (α × Env)).bind f = .exc e ρ := nr rfl
@[simp] theorem bind_stuck {f : α → Env → Res (β × Env)} : (Res.stuck : Res (α × Env)).bind f = .stuck := nr rfl
@[simp] theorem b0_ok {x : α} {f : α → Env → Res (β × Env)} : (Res.ok (x, ρ)).b0 f = f x ρ := nr rfl
@[simp] theorem mVar_ap {i : Nat} : mVar i (r :: ρ) = match (r :: ρ)[i]? with
  | some (some (.own xs)) => .ok (.lst xs, (r :: ρ).set i (some (.lst xs)))
  | some (some (.obj _ _)) => .stuck
  | some (some (.dow _ _)) => .stuck
  | some (some (.dot _ _)) => .stuck
  | some (some x) => .ok (x, (r :: ρ))
  | _ => .stuck := nr rfl
@[simp] theorem mC_ap  : mC x (r :: ρ) = .ok (x, (r :: ρ)) := nr rfl
@[simp] theorem mOp_ap {f : MV → MV → Option MV} : mOp f a b (r :: ρ) = (a (r :: ρ)).bind fun x ρ1 => (b ρ1).bind fun y ρ2 => match f x y with | some z => .ok (z, ρ2) | none => .stuck := nr rfl
@[simp] theorem mUn_ap {f : MV → Option MV} : mUn f a (r :: ρ) = (a (r :: ρ)).bind fun x ρ1 => match f x with | some z => .ok (z, ρ1) | none => .stuck := nr rfl
@[simp] theorem mTest_ap  : mTest a (r :: ρ) = (a (r :: ρ)).bind fun x ρ1 => match x with | .bl b => .ok (b, ρ1) | _ => .stuck := nr rfl
@[simp] theorem mChain_ap {f g : MV → MV → Option MV} {d : ME} : mChain f g a b d (r :: ρ) = (a (r :: ρ)).bind fun x ρ1 => (b ρ1).bind fun y ρ2 => match f x y with
  | some (.bl true) => (d ρ2).bind fun z ρ3 => match g y z with | some w => .ok (w, ρ3) | none => .stuck
  | some (.bl false) => .ok (.bl false, ρ2)
  | _ => .stuck := nr rfl
@[simp] theorem mAndT_ap {a b : MT} : mAndT a b (r :: ρ) = (a (r :: ρ)).bind fun x ρ1 => if x then b ρ1 else .ok (false, ρ1) := nr rfl
@[simp] theorem mOrT_ap {a b : MT} : mOrT a b (r :: ρ) = (a (r :: ρ)).bind fun x ρ1 => if x then .ok (true, ρ1) else b ρ1 := nr rfl
@[simp] theorem mNotT_ap {a : MT} : mNotT a (r :: ρ) = (a (r :: ρ)).bind fun x ρ1 => .ok (!x, ρ1) := nr rfl
@[simp] theorem mBv_ap {t : MT} : mBv t (r :: ρ) = (t (r :: ρ)).bind fun x ρ1 => .ok (.bl x, ρ1) := nr rfl
@[simp] theorem mNil_ap  : mNil (r :: ρ) = .ok ([], (r :: ρ)) := nr rfl
@[simp] theorem mCons_ap {b : MA} : mCons a b (r :: ρ) = (a (r :: ρ)).bind fun x ρ1 => (b ρ1).bind fun xs ρ2 => .ok (x :: xs, ρ2) := nr rfl
@[simp] theorem mTup_ap {a : MA} : mTup a (r :: ρ) = (a (r :: ρ)).bind fun xs ρ1 => if szOk xs.length then .ok (.tup xs, ρ1) else .stuck := nr rfl
@[simp] theorem mLst_ap {a : MA} : mLst a (r :: ρ) = (a (r :: ρ)).bind fun xs ρ1 => if szOk xs.length then .ok (.lst xs, ρ1) else .stuck := nr rfl
@[simp] theorem mLstO_ap {a : MA} : mLstO a (r :: ρ) = (a (r :: ρ)).bind fun xs ρ1 => if szOk xs.length then .ok (.own xs, ρ1) else .stuck := nr rfl
@[simp] theorem mIxV_ap {i : Nat} : mIxV i b (r :: ρ) = if has (r :: ρ) i then (b (r :: ρ)).bind fun y ρ1 => match ixV ρ1 i y with | some z => .ok (z, ρ1) | none => .stuck else .stuck := nr rfl
@[simp] theorem mNo_ap  : mNo (r :: ρ) = .ok (none, (r :: ρ)) := nr rfl
@[simp] theorem mPart_ap  : mPart a (r :: ρ) = (a (r :: ρ)).bind fun x ρ1 => match x with | .int i => .ok (some i, ρ1) | _ => .stuck := nr rfl
@[simp] theorem mSl_ap {l h : Env → Res (Option Int × Env)} : mSl a l h (r :: ρ) = (a (r :: ρ)).bind fun x ρ1 => (l ρ1).bind fun i ρ2 => (h ρ2).bind fun j ρ3 => match fSl x i j with | some z => .ok (z, ρ3) | none => .stuck := nr rfl
@[simp] theorem gSet_ap {i : Nat} : gSet i x (r :: ρ) = if i < (r :: ρ).length then some ((r :: ρ).set i (some x)) else none := nr rfl
@[simp] theorem gsNil_ap  : gsNil [] (r :: ρ) = some (r :: ρ) := nr rfl
@[simp] theorem gsCons_ap {g : MG} {h : List MV → Env → Option Env} {xs : List MV} : gsCons g h (x :: xs) (r :: ρ) = match g x (r :: ρ) with | some ρ1 => h xs ρ1 | none => none := nr rfl
@[simp] theorem gTp_tup {n : Nat} {h : List MV → Env → Option Env} {xs : List MV} : gTp n h (.tup xs) ρ = if xs.length = n then h xs ρ else none := nr rfl
@[simp] theorem gTp_lst {n : Nat} {h : List MV → Env → Option Env} {xs : List MV} : gTp n h (.lst xs) ρ = if xs.length = n then h xs ρ else none := nr rfl
@[simp] theorem mAsg_ap {g : MG} : mAsg a g (r :: ρ) = (a (r :: ρ)).bind fun x ρ1 => match g x ρ1 with | some ρ2 => .ok (.nx, ρ2) | none => .stuck := nr rfl
@[simp] theorem mSetO_ap {i : Nat} : mSetO i a (r :: ρ) = (a (r :: ρ)).bind fun x ρ1 => if i < ρ1.length then .ok (.nx, ρ1.set i (some x)) else .stuck := nr rfl
@[simp] theorem mPass_ap  : mPass (r :: ρ) = .ok (.nx, (r :: ρ)) := nr rfl
@[simp] theorem mSeq_ap {a b : MS} : mSeq a b (r :: ρ) = (a (r :: ρ)).bind fun f ρ1 => match f with | .nx => b ρ1 | f => .ok (f, ρ1) := nr rfl
@[simp] theorem mIfS_ap {t : MT} {a b : MS} : mIfS t a b (r :: ρ) = (t (r :: ρ)).bind fun x ρ1 => if x then a ρ1 else b ρ1 := nr rfl
@[simp] theorem mRet_ap  : mRet a (r :: ρ) = (a (r :: ρ)).bind fun x ρ1 => .ok (.rt x, ρ1) := nr rfl
@[simp] theorem mDrop_ap  : mDrop a (r :: ρ) = (a (r :: ρ)).bind fun _ ρ1 => .ok (.nx, ρ1) := nr rfl
@[simp] theorem mMove_ap {i : Nat} : mMove i (r :: ρ) = match (r :: ρ)[i]? with
  | some (some (.obj _ _)) => .stuck
  | some (some x) => .ok (x, (r :: ρ).set i none)
  | _ => .stuck := nr rfl
@[simp] theorem mFz_ap  : mFz a (r :: ρ) = (a (r :: ρ)).bind fun x ρ1 => match fz x with | some y => .ok (y, ρ1) | none => .stuck := nr rfl
@[simp] theorem mCall_ap {f : MF} {a : MA} : mCall f a (r :: ρ) = (a (r :: ρ)).bind fun xs ρ1 => match f xs with
  | .ok (v, _) => .ok (v, ρ1)
  | .exc e _ => .exc e ρ1
  | .stuck => .stuck := nr rfl
@[simp] theorem mCall0_ap {f : MF} {a : MA} : mCall0 f a (r :: ρ) = (a (r :: ρ)).bind fun xs ρ1 => match f xs with
  | .ok (v, _) => .ok (v, ρ1)
  | _ => .stuck := nr rfl
@[simp] theorem mBlt_ap {f : List MV → Option MV} {a : MA} : mBlt f a (r :: ρ) = (a (r :: ρ)).bind fun xs ρ1 => match f xs with | some z => .ok (z, ρ1) | none => .stuck := nr rfl
@[simp] theorem mListO_ap {a : MA} : mListO a (r :: ρ) = (a (r :: ρ)).bind fun xs ρ1 => match bList xs with | some (.lst ys) => .ok (.own ys, ρ1) | _ => .stuck := nr rfl
def r1M (xs : List MV) (ρ1 : Env) : Res (List MV × Env) := match xs with
  | [.int j] => if inR j then .ok (rngM 0 1 j.toNat, ρ1) else .stuck
  | _ => .stuck
@[simp] theorem mR1_ap {a : MA} : mR1 a (r :: ρ) = (a (r :: ρ)).bind r1M := nr rfl
@[simp] theorem r1M_i {j : Int} (h : inR j = true) : r1M [.int j] ρ = .ok (rngM 0 1 j.toNat, ρ) := if_pos h
def lmM (f : List MV → List MV → Option (List MV × MV)) (i : Nat) (ys : List MV) (ρ1 : Env) : Res (MV × Env) := match ρ1[i]? with
  | some (some (.own xs)) => (match f xs ys with | some (zs, z) => .ok (z, ρ1.set i (some (.own zs))) | none => .stuck)
  | _ => .stuck
@[simp] theorem mLm_ap {f : List MV → List MV → Option (List MV × MV)} {i : Nat} {a : MA} : mLm f i a (r :: ρ) = if isOwn (r :: ρ) i then (a (r :: ρ)).bind (lmM f i) else .stuck := nr rfl
@[simp] theorem lmM_o {f : List MV → List MV → Option (List MV × MV)} {i : Nat} {xs ys : List MV} (h : ρ[i]? = some (some (.own xs))) : lmM f i ys ρ = (match f xs ys with | some (zs, z) => .ok (z, ρ.set i (some (.own zs))) | none => .stuck) := by unfold lmM; rw [h]
@[simp] theorem isOwn_o {i : Nat} {xs : List MV} (h : ρ[i]? = some (some (.own xs))) : isOwn ρ i = true := by unfold isOwn; rw [h]
@[simp] theorem has_o {i : Nat} {x : MV} (h : ρ[i]? = some (some x)) : has ρ i = true := by unfold has; rw [h]
def setIxM (i : Nat) (z y : MV) (ρ2 : Env) : Res (Fl × Env) := match ρ2[i]?, y with
  | some (some (.own xs)), .int k => (match ixN xs.length k with | some j => .ok (.nx, ρ2.set i (some (.own (xs.set j z)))) | none => .stuck)
  | _, _ => .stuck
@[simp] theorem mSetIx_ap {i : Nat} : mSetIx i a b (r :: ρ) = (a (r :: ρ)).bind fun z ρ1 => if has ρ1 i then (b ρ1).bind (setIxM i z) else .stuck := nr rfl
theorem setIxM_o {i : Nat} {z : MV} {xs : List MV} {k : Int} {j : Nat} (h : ρ[i]? = some (some (.own xs))) (h2 : ixN xs.length k = some j) : setIxM i z (.int k) ρ = .ok (.nx, ρ.set i (some (.own (xs.set j z)))) := by unfold setIxM; rw [h]; simp only [h2]
def augM (f : MV → MV → Option MV) (i : Nat) (x y : MV) (ρ1 : Env) : Res (Fl × Env) := match f x y with
  | some z => if decide (i < ρ1.length) && flatM z then .ok (.nx, ρ1.set i (some z)) else .stuck
  | none => .stuck
theorem mAug_ap {f : MV → MV → Option MV} {i : Nat} {x : MV} (h : ρ[i]? = some (some x)) (h2 : flatM x = true) : mAug f i a ρ = (a ρ).bind (augM f i x) := by
  unfold mAug
  rw [h]
  simp only [h2, if_true]
  rfl
@[simp] theorem mAug_i {f : MV → MV → Option MV} {i : Nat} {k : Int} (h : (r :: ρ)[i]? = some (some (.int k))) : mAug f i a (r :: ρ) = (a (r :: ρ)).bind (augM f i (.int k)) := mAug_ap h rfl
@[simp] theorem augM_i {f : MV → MV → Option MV} {i : Nat} {k j : Int} : augM f i (.int k) (.int j) (r :: ρ) = (match f (.int k) (.int j) with | some z => if decide (i < (r :: ρ).length) && flatM z then .ok (.nx, (r :: ρ).set i (some z)) else .stuck | none => .stuck) := nr rfl
@[simp] theorem flatM_i {k : Int} : flatM (.int k) = true := nr rfl
@[simp] theorem mItV_ap  : mItV a (r :: ρ) = (a (r :: ρ)).bind fun x ρ1 => match itemsOf x with | some xs => .ok (xs, ρ1) | none => .stuck := nr rfl
@[simp] theorem mZip_ap {a : MA} : mZip a (r :: ρ) = (a (r :: ρ)).bind fun xs ρ1 => match xs with
  | [x, y] => (match zitM x, zitM y with | some xs, some ys => .ok (zipM xs ys, ρ1) | _, _ => .stuck)
  | _ => .stuck := nr rfl
@[simp] theorem zitM_l {xs : List MV} : zitM (.lst xs) = some xs := nr rfl
@[simp] theorem zitM_t {xs : List MV} : zitM (.tup xs) = some xs := nr rfl
@[simp] theorem zitM_s {z : Str} : zitM (.str z) = some (signsM z) := nr rfl
@[simp] theorem mYes_ap  : mYes (r :: ρ) = .ok (true, (r :: ρ)) := nr rfl
@[simp] theorem mFor_ap {i : MI} {g : MG} {b : MS} : mFor i g b (r :: ρ) = (i (r :: ρ)).bind fun xs ρ1 => mLoop g b xs ρ1 := nr rfl
@[simp] theorem mLcO_ap {it : MI} {g : Tgt} {t : MT} {vs : List Nat} : mLcO it g t a vs (r :: ρ) = (it (r :: ρ)).bind fun xs ρ1 => if perAt ρ1 vs then (mLcLoop g t a vs xs [] ρ1).b0 fun ys ρ2 => .ok (.own ys, backM ρ1 ρ2 vs) else .stuck := nr rfl
end
@[simp] theorem fz_lst {xs : List MV} : fz (.lst xs) = some (.lst xs) := nr rfl
@[simp] theorem fz_own {xs : List MV} : fz (.own xs) = some (.lst xs) := nr rfl
@[simp] theorem fz_tup {xs : List MV} : fz (.tup xs) = some (.tup xs) := nr rfl
@[simp] theorem fz_int {i : Int} : fz (.int i) = some (.int i) := nr rfl
@[simp] theorem fz_bl {i : Bool} : fz (.bl i) = some (.bl i) := nr rfl
@[simp] theorem fz_str {i : Str} : fz (.str i) = some (.str i) := nr rfl
@[simp] theorem fz_non : fz .non = some .non := nr rfl
@[simp] theorem fz_scr {i : List Int} : fz (.scr i) = some (.scr i) := nr rfl
section
variable {i j : Int}
@[simp] theorem fAdd_ii : fAdd (.int i) (.int j) = some (.int (i + j)) := nr rfl
@[simp] theorem fAdd_ss {a b : Str} : fAdd (.str a) (.str b) = if szOk (a.length + b.length) then some (.str (a ++ b)) else none := nr rfl
@[simp] theorem fAdd_ll {a b : List MV} : fAdd (.lst a) (.lst b) = if szOk (a.length + b.length) then some (.lst (a ++ b)) else none := nr rfl
@[simp] theorem fAdd_tt {a b : List MV} : fAdd (.tup a) (.tup b) = if szOk (a.length + b.length) then some (.tup (a ++ b)) else none := nr rfl
@[simp] theorem fSub_ii : fSub (.int i) (.int j) = some (.int (i - j)) := nr rfl
@[simp] theorem fMul_ii : fMul (.int i) (.int j) = if mulOk i j then some (.int (i * j)) else none := nr rfl
@[simp] theorem fDiv_ii : fDiv (.int i) (.int j) = if divOk j then some (.int (i.fdiv j)) else none := nr rfl
@[simp] theorem fMod_ii : fMod (.int i) (.int j) = if decide (j ≠ 0) then some (.int (i.fmod j)) else none := nr rfl
@[simp] theorem fPow_ii : fPow (.int i) (.int j) = if decide (0 ≤ j) && decide (j ≤ 1000000) && decide (i.natAbs < 2 ^ 64) then some (.int (i ^ j.toNat)) else none := nr rfl
@[simp] theorem fLt_ii : fLt (.int i) (.int j) = some (.bl (decide (i < j))) := nr rfl
@[simp] theorem fLe_ii : fLe (.int i) (.int j) = some (.bl (decide (i ≤ j))) := nr rfl
@[simp] theorem fGt_ii : fGt (.int i) (.int j) = some (.bl (decide (j < i))) := nr rfl
@[simp] theorem fGe_ii : fGe (.int i) (.int j) = some (.bl (decide (j ≤ i))) := nr rfl
@[simp] theorem fNeg_i : fNeg (.int i) = some (.int (-i)) := nr rfl
@[simp] theorem fAddI_ii : fAddI (.int i) (.int j) = some (.int (i + j)) := nr rfl
@[simp] theorem fEq_ii : fEq (.int i) (.int j) = some (.bl (decide (i = j))) := nr rfl
@[simp] theorem fNe_ii : fNe (.int i) (.int j) = some (.bl (!decide (i = j))) := nr rfl
@[simp] theorem fEq_ss {a b : Str} : fEq (.str a) (.str b) = some (.bl (decide (a = b))) := nr rfl
@[simp] theorem fNe_ss {a b : Str} : fNe (.str a) (.str b) = some (.bl (!decide (a = b))) := nr rfl
@[simp] theorem bLen_l {a : List MV} : bLen [.lst a] = some (.int a.length) := nr rfl
@[simp] theorem bLen_t {a : List MV} : bLen [.tup a] = some (.int a.length) := nr rfl
@[simp] theorem bLen_c {a : List Int} : bLen [.scr a] = some (.int a.length) := nr rfl
@[simp] theorem bAbs_i : bAbs [.int i] = some (.int (if i < 0 then -i else i)) := nr rfl
@[simp] theorem bMin_i : bMin [.int i, .int j] = some (.int (if j < i then j else i)) := nr rfl
@[simp] theorem bInt_i : bInt [.int i] = some (.int i) := nr rfl
@[simp] theorem bInt_b {k : Bool} : bInt [.bl k] = some (.int (if k then 1 else 0)) := nr rfl
@[simp] theorem fIx_l {a : List MV} : fIx (.lst a) (.int i) = atI a i := nr rfl
@[simp] theorem fIx_t {a : List MV} : fIx (.tup a) (.int i) = atI a i := nr rfl
@[simp] theorem fIx_c {a : List Int} : fIx (.scr a) (.int i) = (atI a i).map .int := nr rfl
@[simp] theorem ixL_i {a : List MV} : ixL a (.int i) = atI a i := nr rfl
@[simp] theorem itemsOf_l {a : List MV} : itemsOf (.lst a) = some a := nr rfl
@[simp] theorem itemsOf_t {a : List MV} : itemsOf (.tup a) = some a := nr rfl
@[simp] theorem itemsOf_c {a : List Int} : itemsOf (.scr a) = some (a.map .int) := nr rfl
@[simp] theorem bTuple_l {a : List MV} : bTuple [.lst a] = some (.tup a) := nr rfl
@[simp] theorem bTuple_t {a : List MV} : bTuple [.tup a] = some (.tup a) := nr rfl
@[simp] theorem lmAppend_1 {a : List MV} {y : MV} : lmAppend a [y] = if decide (a.length < sizeLine) then some (a ++ [y], .non) else none := nr rfl
end
@[simp] theorem nat_neg {k : Nat} : ((k : Int) < 0) = False := by simp
@[simp] theorem nat_toNat {k : Nat} : ((k : Int)).toNat = k := nr rfl
theorem szOk_small {n : Nat} (h : n ≤ 16777216) : szOk n = true := szOk_iff.mpr (by rw [sizeLine_eq]; exact h)
theorem atI_ge {α : Type} {xs : List α} {i : Int} (h : 0 ≤ i) : atI xs i = xs[i.toNat]? := by
  unfold atI ixN
  rw [if_pos h]
  by_cases e : i < xs.length
  · rw [if_pos e]; rfl
  · rw [if_neg e, List.getElem?_eq_none (by omega)]; rfl
@[simp] theorem atI_0 {α : Type} {xs : List α} : atI xs 0 = xs[0]? := atI_ge (by decide)
@[simp] theorem atI_1 {α : Type} {xs : List α} : atI xs 1 = xs[1]? := atI_ge (by decide)
@[simp] theorem atI_2 {α : Type} {xs : List α} : atI xs 2 = xs[2]? := atI_ge (by decide)
@[simp] theorem atI_3 {α : Type} {xs : List α} : atI xs 3 = xs[3]? := atI_ge (by decide)
@[simp] theorem atI_4 {α : Type} {xs : List α} : atI xs 4 = xs[4]? := atI_ge (by decide)
@[simp] theorem atI_5 {α : Type} {xs : List α} : atI xs 5 = xs[5]? := atI_ge (by decide)
@[simp] theorem atI_6 {α : Type} {xs : List α} : atI xs 6 = xs[6]? := atI_ge (by decide)
@[simp] theorem atI_7 {α : Type} {xs : List α} : atI xs 7 = xs[7]? := atI_ge (by decide)
@[simp] theorem atI_8 {α : Type} {xs : List α} : atI xs 8 = xs[8]? := atI_ge (by decide)
@[simp] theorem atI_9 {α : Type} {xs : List α} : atI xs 9 = xs[9]? := atI_ge (by decide)
@[simp] theorem atI_10 {α : Type} {xs : List α} : atI xs 10 = xs[10]? := atI_ge (by decide)
@[simp] theorem atI_11 {α : Type} {xs : List α} : atI xs 11 = xs[11]? := atI_ge (by decide)
@[simp] theorem atI_12 {α : Type} {xs : List α} : atI xs 12 = xs[12]? := atI_ge (by decide)
@[simp] theorem atI_13 {α : Type} {xs : List α} : atI xs 13 = xs[13]? := atI_ge (by decide)
@[simp] theorem atI_14 {α : Type} {xs : List α} : atI xs 14 = xs[14]? := atI_ge (by decide)
@[simp] theorem atI_15 {α : Type} {xs : List α} : atI xs 15 = xs[15]? := atI_ge (by decide)
theorem mulOk_l {i j : Int} (h1 : -(2 ^ 64) < i) (h2 : i < 2 ^ 64) : mulOk i j = true := by simp only [mulOk, Bool.or_eq_true, Bool.and_eq_true, decide_eq_true_eq]; exact .inl (.inl ⟨h1, h2⟩)
theorem mulOk_r {i j : Int} (h1 : -(2 ^ 64) < j) (h2 : j < 2 ^ 64) : mulOk i j = true := by simp only [mulOk, Bool.or_eq_true, Bool.and_eq_true, decide_eq_true_eq]; exact .inl (.inr ⟨h1, h2⟩)
theorem inR_of {i : Int} (h1 : -(2 ^ 62) ≤ i) (h2 : i < 2 ^ 62) : inR i = true := inR_iff.mpr ⟨h1, h2⟩
theorem loop_inv {g : MG} {b : MS} (I : Nat → Env → Prop) : ∀ (xs : List MV) (k : Nat) (ρ : Env), I k ρ → (∀ i x ρ, xs[i]? = some x → I (k + i) ρ → ∃ ρ1 ρ2, g x ρ = some ρ1 ∧ (b ρ1 = .ok (.nx, ρ2) ∨ b ρ1 = .ok (.ct, ρ2)) ∧ I (k + i + 1) ρ2) → ∃ ρ', mLoop g b xs ρ = .ok (.nx, ρ') ∧ I (k + xs.length) ρ'
  | [], k, ρ, h, _ => ⟨ρ, rfl, h⟩
  | x :: xs, k, ρ, h, hs => by
    obtain ⟨ρ1, ρ2, e1, e2, h2⟩ := hs 0 x ρ rfl h
    obtain ⟨ρ', e3, h3⟩ := loop_inv I xs (k + 1) ρ2 h2 (fun i y ρ hy hi => by
      have := hs (i + 1) y ρ (by simpa using hy) (by rw [show k + (i + 1) = k + 1 + i by omega]; exact hi)
      rw [show k + 1 + i + 1 = k + (i + 1) + 1 by omega]
      exact this)
    refine ⟨ρ', ?_, by rw [List.length_cons, show k + (xs.length + 1) = k + 1 + xs.length by omega]; exact h3⟩
    unfold mLoop
    rw [e1]
    rcases e2 with e2 | e2 <;> (simp only [e2, bind_ok]; exact e3)
theorem loop_rng {g : MG} {b : MS} {lo c : Int} {n : Nat} {ρ : Env} (I : Nat → Env → Prop) (h0 : I 0 ρ) (hs : ∀ i ρ, i < n → I i ρ → ∃ ρ1 ρ2, g (.int (lo + (i : Nat) * c)) ρ = some ρ1 ∧ (b ρ1 = .ok (.nx, ρ2) ∨ b ρ1 = .ok (.ct, ρ2)) ∧ I (i + 1) ρ2) :
    ∃ ρ', mLoop g b (rngM lo c n) ρ = .ok (.nx, ρ') ∧ I n ρ' := by
  obtain ⟨ρ', e, h⟩ := loop_inv I (rngM lo c n) 0 ρ h0 fun i x ρ hx hi => by
    have li := lt_get hx
    rw [rngM_len] at li
    rw [rngM_get li] at hx
    cases hx
    have := hs i ρ li (by simpa using hi)
    simpa using this
  rw [rngM_len, Nat.zero_add] at h
  exact ⟨ρ', e, h⟩
def okD : Nat → MV → Bool
  | _, .non => true
  | _, .bl _ => true
  | _, .int _ => true
  | _, .str x => (PyData.str x).canLay0
  | n + 1, .tup xs => xs.all (okD n)
  | n + 1, .lst xs => xs.all (okD n)
  | _, _ => false
theorem okDs_to {n : Nat} (ih : ∀ x, okD n x = true → ∃ d, toD x = some d ∧ d.canLay0 = true ∧ d.depth ≤ n) : ∀ xs : List MV, xs.all (okD n) = true → ∃ ds, toDs xs = some ds ∧ PyData.canLayAll0 ds = true ∧ PyData.depthAll ds ≤ n
  | [], _ => ⟨[], rfl, by simp [PyData.canLayAll0], by simp [PyData.depthAll]⟩
  | x :: xs, h => by
    simp only [List.all_cons, Bool.and_eq_true] at h
    obtain ⟨d, e, c, p⟩ := ih x h.1
    obtain ⟨ds, es, cs, ps⟩ := okDs_to ih xs h.2
    refine ⟨d :: ds, by simp [toDs, e, es], by simp [PyData.canLayAll0, c, cs], by simp only [PyData.depthAll]; omega⟩
theorem okD_to : ∀ (n : Nat) (x : MV), okD n x = true → ∃ d, toD x = some d ∧ d.canLay0 = true ∧ d.depth ≤ n
  | n, .non, _ => ⟨_, rfl, rfl, by simp [PyData.depth]⟩
  | n, .bl _, _ => ⟨_, rfl, rfl, by simp [PyData.depth]⟩
  | n, .int _, _ => ⟨_, rfl, rfl, by simp [PyData.depth]⟩
  | n, .str x, h => ⟨.str x, rfl, by cases n <;> exact h, by simp [PyData.depth]⟩
  | 0, .tup _, h => by simp [okD] at h
  | 0, .lst _, h => by simp [okD] at h
  | n + 1, .tup xs, h => by
    obtain ⟨ds, e, c, p⟩ := okDs_to (okD_to n) xs h
    exact ⟨.tuple ds, by simp [toD, e], by simpa [PyData.canLay0] using c, by simp only [PyData.depth]; omega⟩
  | n + 1, .lst xs, h => by
    obtain ⟨ds, e, c, p⟩ := okDs_to (okD_to n) xs h
    exact ⟨.list ds, by simp [toD, e], by simpa [PyData.canLay0] using c, by simp only [PyData.depth]; omega⟩
  | n, .own _, h => by cases n <;> simp [okD] at h
  | n, .raw _, h => by cases n <;> simp [okD] at h
  | n, .scr _, h => by cases n <;> simp [okD] at h
  | n, .fnc _, h => by cases n <;> simp [okD] at h
  | n, .obj _ _, h => by cases n <;> simp [okD] at h
  | n, .dct _ _, h => by cases n <;> simp [okD] at h
  | n, .dow _ _, h => by cases n <;> simp [okD] at h
  | n, .dot _ _, h => by cases n <;> simp [okD] at h
theorem eqM_self {n : Nat} {x : MV} (hn : n ≤ 64) (h : okD n x = true) : eqM x x = some true := by
  unfold eqM
  by_cases hs : scalM x x = true
  · rw [if_pos hs]
    cases x <;> simp_all [scalM, sameM]
  · rw [if_neg hs]
    obtain ⟨d, e, c, p⟩ := okD_to n x h
    have hd : SeqAt.shaped d = true := by
      unfold SeqAt.shaped
      rw [c]
      simp
      omega
    rw [e]
    simp only [hd, Bool.and_self, if_true]
    rw [SeqAt.eqv_refl d c]
@[simp] theorem fEq_tt {xs : List MV} (h : xs.all (okD 20) = true) : fEq (.tup xs) (.tup xs) = some (.bl true) := by unfold fEq; rw [eqM_self (n := 21) (by decide) (x := .tup xs) h]; rfl
@[simp] theorem fNe_tt {xs : List MV} (h : xs.all (okD 20) = true) : fNe (.tup xs) (.tup xs) = some (.bl false) := by unfold fNe; rw [eqM_self (n := 21) (by decide) (x := .tup xs) h]; rfl
@[simp] theorem fEq_lle {xs : List MV} (h : xs.all (okD 20) = true) : fEq (.lst xs) (.lst xs) = some (.bl true) := by unfold fEq; rw [eqM_self (n := 21) (by decide) (x := .lst xs) h]; rfl
@[simp] theorem fNe_lle {xs : List MV} (h : xs.all (okD 20) = true) : fNe (.lst xs) (.lst xs) = some (.bl false) := by unfold fNe; rw [eqM_self (n := 21) (by decide) (x := .lst xs) h]; rfl
@[simp] theorem okD_i {n : Nat} {i : Int} : okD n (.int i) = true := by cases n <;> rfl
@[simp] theorem okD_b {n : Nat} {i : Bool} : okD n (.bl i) = true := by cases n <;> rfl
@[simp] theorem okD_n {n : Nat} : okD n .non = true := by cases n <;> rfl
@[simp] theorem fSl_t {xs : List MV} {lo hi : Option Int} : fSl (.tup xs) lo hi = some (.tup (cutM xs lo hi)) := nr rfl
@[simp] theorem fSl_l {xs : List MV} {lo hi : Option Int} : fSl (.lst xs) lo hi = some (.lst (cutM xs lo hi)) := nr rfl
@[simp] theorem cutM_none {xs : List MV} : cutM xs none none = xs := by simp [cutM, HT.sIx]
theorem cutM_to {xs : List MV} {k : Int} (h : 0 ≤ k) : cutM xs none (some k) = xs.take k.toNat := by
  simp [cutM, HT.sIx, show ¬ k < 0 by omega, List.take_eq_take_min]
theorem cutM_from {xs : List MV} {k : Int} (h : 0 ≤ k) : cutM xs (some k) none = xs.drop k.toNat := by
  simp [cutM, HT.sIx, show ¬ k < 0 by omega]
  by_cases e : k.toNat ≤ xs.length
  · rw [Nat.min_eq_left e, List.take_of_length_le (by simp)]
  · rw [Nat.min_eq_right (by omega), List.drop_of_length_le (by omega), List.drop_of_length_le (by omega)]; simp
end Tm
set_option Elab.async false
set_option linter.all false
set_option maxRecDepth 100000
set_option maxHeartbeats 2000000
namespace Tm
open PySem L2
@[simp] theorem mRevA_ap {a : ME} {r : Option MV} {ρ : Env} : mRevA a (r :: ρ) = (a (r :: ρ)).bind fun x ρ1 => match fRevA x with | some z => .ok (z, ρ1) | none => .stuck := nr rfl
@[simp] theorem fRevA_l {a : List MV} : fRevA (.lst a) = some (.lst a.reverse) := nr rfl
@[simp] theorem fRevA_t {a : List MV} : fRevA (.tup a) = some (.tup a.reverse) := nr rfl
theorem mFn_ok {n : Nat} {m : MS} {xs : List MV} {v : MV} (h : ∃ ρ, m (xs.map some ++ List.replicate (n - xs.length) none) = .ok (.rt v, ρ)) : mFn n [] m xs = .ok (v, []) := by
  obtain ⟨ρ, h⟩ := h
  unfold mFn; rw [h]; rfl
theorem fmod_lt' {a b : Int} (h : 0 < b) : a.fmod b < b := Int.fmod_lt_of_pos a h
theorem fmod_ge' {a b : Int} (h : 0 < b) : 0 ≤ a.fmod b := Int.fmod_nonneg_of_pos a h
theorem nat_fmod (a b : Nat) : (a : Int).fmod (b : Int) = ((a % b : Nat) : Int) := by rw [Int.fmod_eq_emod_of_nonneg _ (Int.natCast_nonneg b)]; exact (Int.natCast_emod a b).symm
theorem nat_fdiv (a b : Nat) : (a : Int).fdiv (b : Int) = ((a / b : Nat) : Int) := by rw [Int.fdiv_eq_ediv_of_nonneg _ (Int.natCast_nonneg b)]; exact (Int.natCast_ediv a b).symm
theorem back_wipe : ∀ (vs : List Nat) (ρ ρ' : Env), ρ.length = ρ'.length → (∀ j, j ∉ vs → ρ'[j]? = ρ[j]?) → backM ρ ρ' vs = ρ := by
  have key : ∀ (vs : List Nat) (ρ ρ' : Env) (j : Nat), ρ.length = ρ'.length → (backM ρ ρ' vs)[j]? = if j ∈ vs then ρ[j]? else ρ'[j]? := by
    intro vs
    induction vs with
    | nil => intro ρ ρ' j hl; simp [backM]
    | cons v vs ih =>
      intro ρ ρ' j hl
      show (backM ρ (ρ'.set v ((ρ[v]?).join)) vs)[j]? = _
      rw [ih ρ _ j (by simp [hl])]
      by_cases e : j ∈ vs
      · simp [e]
      · by_cases e2 : j = v
        · subst e2
          by_cases hlt : j < ρ'.length
          · simp [e, List.getElem?_set_self hlt, show j < ρ.length by omega]
          · simp [e, List.getElem?_eq_none (show ρ'.length ≤ j by omega), List.getElem?_eq_none (show ρ.length ≤ j by omega)]
            omega
        · simp [e, e2, List.getElem?_set_ne (Ne.symm e2)]
  intro vs ρ ρ' hl h
  apply List.ext_getElem?
  intro j
  rw [key vs ρ ρ' j hl]
  by_cases e : j ∈ vs
  · simp [e]
  · simp [e, h j e]
theorem wipe_other {ρ ρ' : Env} {vs : List Nat} (hl : ρ.length = ρ'.length) (h : wipeM ρ' vs = wipeM ρ vs) : ∀ j, j ∉ vs → ρ'[j]? = ρ[j]? := by
  intro j hj
  have h1 := wipeM_get ρ vs j
  have h2 := wipeM_get ρ' vs j
  rw [if_neg (by simp [hj])] at h1 h2
  rw [← h1, ← h2, h]
theorem lc_map {g : Tgt} {e : ME} {vs : List Nat} {W : Env} (y : MV → MV) : ∀ (xs acc : List MV) (ρ : Env), (∀ x ∈ xs, ∃ ρ1, setT g x W = some ρ1 ∧ e ρ1 = .ok (y x, ρ1) ∧ wipeM ρ1 vs = W ∧ ρ1.length = W.length) → wipeM ρ vs = W → ρ.length = W.length → acc.length + xs.length ≤ sizeLine →
    ∃ ρ', mLcLoop g mYes e vs xs acc ρ = .ok (acc ++ xs.map y, ρ') ∧ wipeM ρ' vs = W ∧ ρ'.length = W.length
  | [], acc, ρ, _, hw, hl, _ => ⟨ρ, by simp [mLcLoop], hw, hl⟩
  | x :: xs, acc, ρ, h, hw, hl, hz => by
    obtain ⟨ρ1, e1, e2, e3, e4⟩ := h x (List.mem_cons_self ..)
    rw [List.length_cons] at hz
    obtain ⟨ρ', r1, r2, r3⟩ := lc_map (g := g) (e := e) (vs := vs) y xs (acc ++ [y x]) ρ1 (fun z hz => h z (List.mem_cons_of_mem _ hz)) e3 e4 (by rw [List.length_append, List.length_singleton]; omega)
    refine ⟨ρ', ?_, r2, r3⟩
    unfold mLcLoop
    rw [hw, e1]
    simp only [mYes, b0_ok, if_true, e2]
    rw [if_pos ⟨by omega, by rw [e4, hl]⟩, r1]
    simp
theorem mLcO_map {it : MI} {g : Tgt} {e : ME} {vs : List Nat} {ρ ρ1 : Env} {xs : List MV} (y : MV → MV) (hi : it ρ = .ok (xs, ρ1)) (hp : perAt ρ1 vs = true) (hx : ∀ x ∈ xs, ∃ ρ2, setT g x (wipeM ρ1 vs) = some ρ2 ∧ e ρ2 = .ok (y x, ρ2) ∧ wipeM ρ2 vs = wipeM ρ1 vs ∧ ρ2.length = ρ1.length) (hz : xs.length ≤ sizeLine) :
    mLcO it g mYes e vs ρ = .ok (.own (xs.map y), ρ1) := by
  obtain ⟨ρ', r1, r2, r3⟩ := lc_map (g := g) (e := e) (vs := vs) (W := wipeM ρ1 vs) y xs [] ρ1 (fun x h => by
    obtain ⟨ρ2, a, b, c, d⟩ := hx x h
    exact ⟨ρ2, a, b, c, by rw [d, wipeM_len]⟩) rfl (wipeM_len ..).symm (by simpa using hz)
  unfold mLcO
  rw [hi, bind_ok, if_pos hp, r1]
  simp only [b0_ok, List.nil_append]
  rw [back_wipe vs ρ1 ρ' (by rw [r3, wipeM_len]) (wipe_other (by rw [r3, wipeM_len]) r2)]
end Tm
set_option Elab.async false
set_option linter.all false
set_option maxRecDepth 100000
set_option maxHeartbeats 2000000
namespace Tm
open PySem L2
section
variable {α β : Type} {ρ : Env} {r : Option MV} {x f g y : Str} {a b : ME}
@[simp] theorem mRaise1_ap : mRaise1 x f a (r :: ρ) = (a (r :: ρ)).bind fun y ρ1 => .exc ⟨x, [(f, y)]⟩ ρ1 := nr rfl
variable {i : Nat} {tab : List (Str × Bool)} {mb : MS} {mh : MX → MS} {e : MX} {q : Fl × Env}
theorem mFn_exc {n : Nat} {m : MS} {xs : List MV} {e : MX} (h : ∃ ρ, m (xs.map some ++ List.replicate (n - xs.length) none) = .exc e ρ) : mFn n [] m xs = .exc e [] := by
  obtain ⟨ρ, h⟩ := h
  unfold mFn; rw [h]; rfl
end
section
variable {i : Int} {b b' : Bool} {x y : Str}
@[simp] theorem fEq_nn : fEq .non .non = some (.bl true) := nr rfl
@[simp] theorem fNe_nn : fNe .non .non = some (.bl false) := nr rfl
@[simp] theorem fEq_ni : fEq .non (.int i) = some (.bl false) := nr rfl
@[simp] theorem fEq_in : fEq (.int i) .non = some (.bl false) := nr rfl
@[simp] theorem fNe_ni : fNe .non (.int i) = some (.bl true) := nr rfl
@[simp] theorem fNe_in : fNe (.int i) .non = some (.bl true) := nr rfl
@[simp] theorem fEq_ns : fEq .non (.str x) = some (.bl false) := nr rfl
@[simp] theorem fEq_sn : fEq (.str x) .non = some (.bl false) := nr rfl
@[simp] theorem fNe_ns : fNe .non (.str x) = some (.bl true) := nr rfl
@[simp] theorem fNe_sn : fNe (.str x) .non = some (.bl true) := nr rfl
@[simp] theorem fEq_bb : fEq (.bl b) (.bl b') = some (.bl (decide (b = b'))) := nr rfl
@[simp] theorem fNe_bb : fNe (.bl b) (.bl b') = some (.bl (!decide (b = b'))) := nr rfl
@[simp] theorem fEq_is : fEq (.int i) (.str x) = some (.bl false) := nr rfl
@[simp] theorem fEq_si : fEq (.str x) (.int i) = some (.bl false) := nr rfl
@[simp] theorem fIsN_n : fIsN .non .non = some (.bl true) := nr rfl
@[simp] theorem fIsN_i : fIsN (.int i) .non = some (.bl false) := nr rfl
@[simp] theorem fIsN_s : fIsN (.str x) .non = some (.bl false) := nr rfl
@[simp] theorem fIsN_t {xs : List MV} : fIsN (.tup xs) .non = some (.bl false) := nr rfl
@[simp] theorem fIsN_b : fIsN (.bl b) .non = some (.bl false) := nr rfl
end
@[simp] theorem fIx_s {z : Str} {i : Int} : fIx (.str z) (.int i) = if szOk z.length then (atI z.cps.toList i).map fun c => MV.str ⟨#[c]⟩ else none := nr rfl
@[simp] theorem fSl_s {z : Str} {lo hi : Option Int} : fSl (.str z) lo hi = if szOk z.length then some (.str (cutS z lo hi)) else none := nr rfl
@[simp] theorem bLen_s {z : Str} : bLen [.str z] = if szOk z.length then some (.int z.length) else none := nr rfl
theorem fMul_l {a : List MV} {k : Int} (h : 0 ≤ k) (h2 : k < 2 ^ 63) (h3 : szOk (a.length * k.toNat) = true) : fMul (.lst a) (.int k) = some (.lst (List.replicate k.toNat a).flatten) := by
  show (if (decide (-(2 ^ 63) ≤ k) && decide (k < 2 ^ 63) && szOk (a.length * k.toNat)) = true then some (MV.lst (List.replicate k.toNat a).flatten) else none) = _
  rw [if_pos]
  simp only [h2, h3, decide_true, Bool.and_true, decide_eq_true_eq]
  omega
theorem rep_one {α : Type} (x : α) (k : Nat) : (List.replicate k [x]).flatten = List.replicate k x := by
  induction k with
  | zero => rfl
  | succ k ih => rw [List.replicate_succ, List.flatten_cons, ih]; rfl
theorem fMul_1 {x : MV} {k : Nat} (h : k < 1000000) : fMul (.lst [x]) (.int (k : Nat)) = some (.lst (List.replicate k x)) := by
  rw [fMul_l (by omega) (by omega) (szOk_small (by simp; omega))]
  show some (MV.lst (List.replicate k [x]).flatten) = _
  rw [rep_one]
@[simp] theorem fMul_10 {x : MV} : fMul (.lst [x]) (.int 0) = some (.lst []) := fMul_1 (k := 0) (by decide)
@[simp] theorem fMul_11 {x : MV} : fMul (.lst [x]) (.int 1) = some (.lst [x]) := fMul_1 (k := 1) (by decide)
end Tm
set_option Elab.async false
set_option linter.all false
set_option maxRecDepth 100000
set_option maxHeartbeats 2000000
namespace Tm
open PySem L2
theorem lc_filt {g : Tgt} {t : MT} {e : ME} {vs : List Nat} {W : Env} (p : MV → Bool) (y : MV → MV) : ∀ (xs acc : List MV) (ρ : Env), (∀ x ∈ xs, ∃ ρ1, setT g x W = some ρ1 ∧ t ρ1 = .ok (p x, ρ1) ∧ (p x = true → e ρ1 = .ok (y x, ρ1)) ∧ wipeM ρ1 vs = W ∧ ρ1.length = W.length) → wipeM ρ vs = W → ρ.length = W.length → acc.length + xs.length ≤ sizeLine →
    ∃ ρ', mLcLoop g t e vs xs acc ρ = .ok (acc ++ (xs.filter p).map y, ρ') ∧ wipeM ρ' vs = W ∧ ρ'.length = W.length
  | [], acc, ρ, _, hw, hl, _ => ⟨ρ, by simp [mLcLoop], hw, hl⟩
  | x :: xs, acc, ρ, h, hw, hl, hz => by
    obtain ⟨ρ1, e1, et, e2, e3, e4⟩ := h x (List.mem_cons_self ..)
    rw [List.length_cons] at hz
    cases hp : p x with
    | true =>
      obtain ⟨ρ', r1, r2, r3⟩ := lc_filt (g := g) (t := t) (e := e) (vs := vs) p y xs (acc ++ [y x]) ρ1 (fun z hz => h z (List.mem_cons_of_mem _ hz)) e3 e4 (by rw [List.length_append, List.length_singleton]; omega)
      refine ⟨ρ', ?_, r2, r3⟩
      unfold mLcLoop
      rw [hw, e1]
      simp only [et, hp, b0_ok, if_true, e2 hp]
      rw [if_pos ⟨by omega, by rw [e4, hl]⟩, r1, List.filter_cons_of_pos hp]
      simp
    | false =>
      obtain ⟨ρ', r1, r2, r3⟩ := lc_filt (g := g) (t := t) (e := e) (vs := vs) p y xs acc ρ1 (fun z hz => h z (List.mem_cons_of_mem _ hz)) e3 e4 (by omega)
      refine ⟨ρ', ?_, r2, r3⟩
      unfold mLcLoop
      rw [hw, e1]
      simp only [et, hp, b0_ok, Bool.false_eq_true, if_false]
      rw [if_pos (by rw [e4, hl]), r1, List.filter_cons_of_neg (by simp [hp])]
theorem mLcO_filt {it : MI} {g : Tgt} {t : MT} {e : ME} {vs : List Nat} {ρ ρ1 : Env} {xs : List MV} (p : MV → Bool) (y : MV → MV) (hi : it ρ = .ok (xs, ρ1)) (hp : perAt ρ1 vs = true) (hx : ∀ x ∈ xs, ∃ ρ2, setT g x (wipeM ρ1 vs) = some ρ2 ∧ t ρ2 = .ok (p x, ρ2) ∧ (p x = true → e ρ2 = .ok (y x, ρ2)) ∧ wipeM ρ2 vs = wipeM ρ1 vs ∧ ρ2.length = ρ1.length) (hz : xs.length ≤ sizeLine) :
    mLcO it g t e vs ρ = .ok (.own ((xs.filter p).map y), ρ1) := by
  obtain ⟨ρ', r1, r2, r3⟩ := lc_filt (g := g) (t := t) (e := e) (vs := vs) (W := wipeM ρ1 vs) p y xs [] ρ1 (fun x h => by
    obtain ⟨ρ2, a, b, c, d, f⟩ := hx x h
    exact ⟨ρ2, a, b, c, d, by rw [f, wipeM_len]⟩) rfl (wipeM_len ..).symm (by simpa using hz)
  unfold mLcO
  rw [hi, bind_ok, if_pos hp, r1]
  simp only [b0_ok, List.nil_append]
  rw [back_wipe vs ρ1 ρ' (by rw [r3, wipeM_len]) (wipe_other (by rw [r3, wipeM_len]) r2)]
theorem set_none {ρ : Env} {v : Nat} (hv : ρ[v]? = some none) : ρ.set v none = ρ := by
  apply List.ext_getElem?
  intro j
  by_cases e : v = j
  · subst e; rw [List.getElem?_set_self (lt_get hv), hv]
  · rw [List.getElem?_set_ne e]
theorem mLcO_nmf {it : MI} {t : MT} {e : ME} {v : Nat} {ρ : Env} {xs : List MV} (p : MV → Bool) (y : MV → MV) (hi : it ρ = .ok (xs, ρ)) (hv : ρ[v]? = some none) (ht : ∀ x ∈ xs, t (ρ.set v (some x)) = .ok (p x, ρ.set v (some x))) (he : ∀ x ∈ xs, p x = true → e (ρ.set v (some x)) = .ok (y x, ρ.set v (some x))) (hz : xs.length ≤ sizeLine) :
    mLcO it (.nm v) t e [v] ρ = .ok (.own ((xs.filter p).map y), ρ) := by
  have lv := lt_get hv
  have w : wipeM ρ [v] = ρ := set_none hv
  refine mLcO_filt p y hi (by simp [perAt, hv]) (fun x hx => ?_) hz
  rw [w]
  refine ⟨ρ.set v (some x), by simp [setT, lv], ht x hx, he x hx, ?_, by simp⟩
  show (ρ.set v (some x)).set v none = ρ
  rw [List.set_set]
  exact w
theorem mLcO_nm {it : MI} {e : ME} {v : Nat} {ρ : Env} {xs : List MV} (y : MV → MV) (hi : it ρ = .ok (xs, ρ)) (hv : ρ[v]? = some none) (he : ∀ x ∈ xs, e (ρ.set v (some x)) = .ok (y x, ρ.set v (some x))) (hz : xs.length ≤ sizeLine) :
    mLcO it (.nm v) mYes e [v] ρ = .ok (.own (xs.map y), ρ) := by
  have := mLcO_nmf (t := mYes) (fun _ => true) y hi hv (fun _ _ => rfl) (fun x hx _ => he x hx) hz
  rwa [List.filter_eq_self.mpr (fun _ _ => rfl)] at this
@[simp] theorem mLenV_ap : mLenV i (r :: ρ) = match lenV (r :: ρ) i with | some z => .ok (z, r :: ρ) | none => .stuck := nr rfl
@[simp] theorem lenV_get {ρ : Env} : lenV ρ i = match ρ[i]? with | some (some (.own xs)) => some (.int xs.length) | some (some x) => bLen [x] | _ => none := nr rfl
@[simp] theorem mSlV_ap {l h : MP} : mSlV i l h (r :: ρ) = if has (r :: ρ) i then (l (r :: ρ)).bind fun a ρ1 => (h ρ1).bind fun b ρ2 => match slV ρ2 i a b with | some zs => .ok (.lst zs, ρ2) | none => .stuck else .stuck := nr rfl
@[simp] theorem fMul_s {a : Str} {k : Int} : fMul (.str a) (.int k) = if decide (-(2 ^ 63) ≤ k) && decide (k < 2 ^ 63) && szOk (a.length * k.toNat) then some (.str (repS a k)) else none := nr rfl
theorem fMul_tup {a : List MV} {k : Int} : fMul (.tup a) (.int k) = if (decide (-(2 ^ 63) ≤ k) && decide (k < 2 ^ 63) && (decide (k = 1) || a.isEmpty || (decide (2 ≤ k) && decide (k ≤ 1000) && decide (a.length ≤ 1000)))) = true then some (.tup (List.replicate k.toNat a).flatten) else none := rfl
@[simp] theorem fMul_t1 {a : List MV} : fMul (.tup a) (.int 1) = some (.tup a) := by
  rw [fMul_tup, if_pos (by simp)]
  simp
end Tm
set_option Elab.async false
set_option linter.all false
set_option maxRecDepth 100000
set_option maxHeartbeats 2000000
namespace Tm
open PySem L2
section
variable {ρ : Env} {r : Option MV}
@[simp] theorem mCallB_ap {f : MF} {a : MB} : mCallB f a (r :: ρ) = (a (r :: ρ)).bind (cbE f) := nr rfl
@[simp] theorem cbE_ap {f : MF} {args : List BA} : cbE f args (r :: ρ) = match fill args (r :: ρ) with
  | some xs => (match f xs with | .ok (v, os) => .ok (v, back (r :: ρ) (idxB args) os) | .exc e os => .exc e (back (r :: ρ) (idxB args) os) | .stuck => .stuck)
  | none => .stuck := nr rfl
@[simp] theorem mbNil_ap : mbNil (r :: ρ) = .ok ([], r :: ρ) := nr rfl
@[simp] theorem mbV_ap {a : ME} {b : MB} : mbV a b (r :: ρ) = (a (r :: ρ)).bind fun x ρ1 => (b ρ1).bind fun xs ρ2 => .ok (.v x :: xs, ρ2) := nr rfl
@[simp] theorem mbB_ap {i : Nat} {b : MB} : mbB i b (r :: ρ) = if has (r :: ρ) i then (b (r :: ρ)).bind fun xs ρ2 => .ok (.b i :: xs, ρ2) else .stuck := nr rfl
@[simp] theorem fill_nil {ρ : Env} : fill [] ρ = some [] := nr rfl
@[simp] theorem fill_v {ρ : Env} {x : MV} {s : List BA} : fill (.v x :: s) ρ = match fill s ρ with | some xs => some (x :: xs) | none => none := nr rfl
@[simp] theorem fill_b {ρ : Env} {i : Nat} {s : List BA} : fill (.b i :: s) ρ = match ρ[i]?, fill s ρ with | some (some x), some xs => if x.held then some (x :: xs) else none | _, _ => none := nr rfl
@[simp] theorem idxB_nil : idxB [] = [] := nr rfl
@[simp] theorem idxB_v {x : MV} {s : List BA} : idxB (.v x :: s) = idxB s := nr rfl
@[simp] theorem idxB_b {i : Nat} {s : List BA} : idxB (.b i :: s) = i :: idxB s := nr rfl
@[simp] theorem back_nil {ρ os : Env} : back ρ [] os = ρ := nr rfl
@[simp] theorem back_cons {ρ os : Env} {i : Nat} {is : List Nat} {o : Option MV} : back ρ (i :: is) (o :: os) = back (ρ.set i o) is os := nr rfl
@[simp] theorem held_own {xs : List MV} : (MV.own xs).held = true := nr rfl
@[simp] theorem held_obj {C : Str} {fs : List (Str × MV)} : (MV.obj C fs).held = true := nr rfl
end
theorem mFn_rtB {n : Nat} {bs : List Nat} {m : MS} {xs : List MV} {v : MV} {os : Env} (h : ∃ ρ, m (xs.map some ++ List.replicate (n - xs.length) none) = .ok (.rt v, ρ) ∧ endOf bs ρ = os) : mFn n bs m xs = .ok (v, os) := by
  obtain ⟨ρ, h, rfl⟩ := h
  show (match m (xs.map some ++ List.replicate (n - xs.length) none) with | .ok (.rt v, ρ) => _ | .ok (.nx, ρ) => _ | .exc e ρ => _ | _ => _) = _
  rw [h]
theorem mFn_nxB {n : Nat} {bs : List Nat} {m : MS} {xs : List MV} {os : Env} (h : ∃ ρ, m (xs.map some ++ List.replicate (n - xs.length) none) = .ok (.nx, ρ) ∧ endOf bs ρ = os) : mFn n bs m xs = .ok (.non, os) := by
  obtain ⟨ρ, h, rfl⟩ := h
  show (match m (xs.map some ++ List.replicate (n - xs.length) none) with | .ok (.rt v, ρ) => _ | .ok (.nx, ρ) => _ | .exc e ρ => _ | _ => _) = _
  rw [h]
theorem char_list_inj : ∀ {a b : List Char}, a.map Char.toNat = b.map Char.toNat → a = b
  | [], [], _ => rfl
  | [], _ :: _, h => by simp at h
  | _ :: _, [], h => by simp at h
  | c :: a, d :: b, h => by
    simp only [List.map_cons, List.cons.injEq] at h
    have e : c = d := by rw [← Char.ofNat_toNat c, ← Char.ofNat_toNat d, h.1]
    rw [e, char_list_inj h.2]
@[simp] theorem str_inj {a b : String} : (Str.ofString a = Str.ofString b) = (a = b) := by
  refine propext ⟨fun h => ?_, fun h => by rw [h]⟩
  rw [Str.ofString_eq_toList, Str.ofString_eq_toList] at h
  have h2 := congrArg (fun z : Str => z.cps.toList) h
  simp only at h2
  exact String.toList_inj.mp (char_list_inj h2)
end Tm
set_option Elab.async false
set_option linter.all false
set_option maxRecDepth 100000
set_option maxHeartbeats 2000000
namespace HT
open PySem PyProof.Rows
end HT
namespace Tm
open PySem L2 PySem.Spec PyProof.Rows
open Evl (Ex ex_rd ex_l ex_t)
def ItEk (k : Nat) (S : Hp → List V → Prop) : It :=
  ⟨fun i H => ∃ (l : List V) (x : V), S H l ∧ l[i]? = some x, fun i H v H' => ∃ p x, v = .ref p ∧ H p = none ∧ H' = upd H p (.tup [.int ((k + i : Nat) : Int), x]) ∧ ∀ l, S H l → l[i]? = some x, fun i H => ∃ l : List V, S H l ∧ i = l.length⟩
section
variable {P : Program} {w : World} {K : PySem.W.Frag} {elts : List Expr} {kk : Nat} {tpos : Pos}
theorem turn_enumK {e it : Addr} {fp : List Addr} {S : Hp → List V → Prop} {tn : Nat → Heap → Prop} (k : Nat) (A1 : ZSrc P w K it fp S tn) (hne : e ≠ it) (hef : e ∉ fp) :
    Turn P w K (.Tuple elts kk tpos) (ItEk k S) [e, it] e (fun i h => (∃ old, IsEnum h e it ((k + i : Nat) : Int) old) ∧ tn i h) where
  mem := by simp
  obj := by
    rintro i h ⟨⟨old, he⟩, t⟩ b hb
    have e' : b = e ∨ b = it := by simpa using hb
    rcases e' with z | z
    · rw [z]; exact ⟨_, he, fun v q => nomatch q⟩
    · rw [z]; exact A1.obj i h t
  keep := fun i h h' st kp => let ⟨⟨old, he⟩, t⟩ := st; ⟨⟨old, kp e (by simp) _ he⟩, A1.keep i h h' t (kp it (by simp))⟩
  item := by
    intro X hP hw hK hc i pins s σ H E I hf st hg
    subst hP hw hK
    obtain ⟨⟨old, he⟩, t⟩ := st
    obtain ⟨l, x, b1, g1⟩ := hg
    obtain ⟨Y, St, D, e1, r1, k1⟩ := A1.draw X rfl rfl rfl hc pins s σ H l i I b1 t
    have m1 : i < l.length := (List.getElem?_eq_some_iff.mp g1).1
    have hel : e < s.heap.objs.size := Heap.lt_size he
    refine wpAny_pyNext_enum_itemC D he e1 m1 hne hef fun u h' tk y ho st' hT hsz hk => ?_
    obtain ⟨x', a1, ru⟩ := r1 i u y
    rw [g1] at a1
    cases a1
    refine ⟨_, rfl, wpAny_letOwnedTupleGo_enum (s := { s with heap := h', toks := tk + 1 }) ho fun h'' he' sb => ?_⟩
    have hT2 : h''.get? s.heap.objs.size = some { cls := .type "tuple", data := .seq #[.int ((k + i : Nat) : Int) tk, u] } := (sb.2 _ (Nat.ne_of_gt hel)).trans hT
    have new : ObjOk X.prog X.w (upd H s.heap.objs.size (.tup [.int ((k + i : Nat) : Int), x])) h'' s.heap.objs.size (.tup [.int ((k + i : Nat) : Int), x]) :=
      ⟨by show 2 ≤ sizeLine; decide, [.int ((k + i : Nat) : Int) tk, u], .cons ⟨_, rfl⟩ (.cons ru .nil), ⟨_, hT2, rfl, _, rfl⟩⟩
    have I1 : Inv X pins σ (upd H s.heap.objs.size (.tup [.int ((k + i : Nat) : Int), x])) { s with heap := h'', toks := tk + 1 } :=
      Inv.turnedNew (ch := [e, it]) I (fun b ob hb q => (sb.2 b (fun z => hb (by simp [z]))).trans (hk b ob (fun z => hb (by simp [z])) (fun z => hb (by simp [z])) q)) hf (Nat.le_refl _) new
    refine ⟨.ref s.heap.objs.size, _, I1, rfl, ⟨_, x, rfl, I.hok.fresh (Nat.le_refl _), rfl, fun ys hy => by rw [A1.inj X rfl pins s σ H ys l I hy b1]; exact g1⟩, ⟨⟨u, ?_⟩, A1.keep _ h' h'' (k1 _ _ st') fun o q => (sb.2 it (Ne.symm hne)).trans q⟩, fun b hb => ?_⟩
    · have e1 : ((k + (i + 1) : Nat) : Int) = ((k + i : Nat) : Int) + 1 := by omega
      rw [e1]; exact he'
    · have hb' : b < s.heap.objs.size := by
        have e' : b = e ∨ b = it := by simpa using hb
        rcases e' with z | z
        · rw [z]; exact hel
        · rw [z]
          obtain ⟨o, eo, _⟩ := A1.obj i s.heap t
          exact Heap.lt_size eo
      rw [upd_ne (Nat.ne_of_lt hb')]
      exact (hf b hb).1
  done := by
    intro X hP hw hK hc i pins s σ H E I hf st hg
    subst hP hw hK
    obtain ⟨⟨old, he⟩, t⟩ := st
    obtain ⟨l, b1, hend⟩ := hg
    obtain ⟨Y, St, D, e1, r1, k1⟩ := A1.draw X rfl rfl rfl hc pins s σ H l i I b1 t
    subst hend
    refine wpAny_pyNext_enum_endD D he e1 fun h' eb => ⟨rfl, ?_⟩
    exact Inv.turnedL I (fun b o nb q => eb b o (fun z => nb (by simp [z])) q) hf
  self := fun A i s Q E st h => let ⟨⟨_, he⟩, _⟩ := st; wpAny_pyIter_enum he h
end
def iEnumK (k : Nat) (K : PySem.W.Frag) (ta : TA) : TI := fun σ H R => ta σ H fun vs H1 => ∃ v S, vs = [v] ∧ ZArg K H1 v S ∧ R (ItEk k S) H1
def enumK (k : Nat) : List MV → List MV
  | [] => []
  | x :: xs => .tup [.int (k : Nat), x] :: enumK (k + 1) xs
theorem enumK_len : ∀ (xs : List MV) (k : Nat), (enumK k xs).length = xs.length
  | [], _ => rfl
  | x :: xs, k => by simp [enumK, enumK_len xs]
theorem enumK_get : ∀ {xs : List MV} {k i : Nat} {x : MV}, xs[i]? = some x → (enumK k xs)[i]? = some (.tup [.int ((k + i : Nat) : Int), x])
  | [], k, i, x, h => by simp at h
  | y :: xs, k, 0, x, h => by simp at h; subst h; rfl
  | y :: xs, k, i + 1, x, h => by
    simp only [List.getElem?_cons_succ] at h
    unfold enumK
    rw [List.getElem?_cons_succ, enumK_get h, show k + 1 + i = k + (i + 1) by omega]
theorem walks_ek {K : PySem.W.Frag} {Hk : Hp} {S : Hp → List V → Prop} {xs : List MV} (k : Nat) (h1 : ZVal K Hk S xs) : Walks K Hk (ItEk k S) (enumK k xs) := by
  obtain ⟨vs, g1, r1⟩ := h1
  refine ⟨fun i H e hi => ?_, fun H e => ⟨vs, g1 H e, by rw [enumK_len, r1.length]⟩, fun i H x H' e hi y => ?_⟩
  · rw [enumK_len] at hi
    obtain ⟨v, hv, _⟩ := r1.get (List.getElem?_eq_getElem hi)
    exact ⟨vs, v, g1 H e, hv⟩
  · rw [enumK_len] at hi
    obtain ⟨v, hv, rv⟩ := r1.get (List.getElem?_eq_getElem hi)
    obtain ⟨p, x1, e1, e2, e3, e4⟩ := y
    have a1 := e4 vs (g1 H e)
    rw [hv] at a1
    cases a1
    exact ⟨_, enumK_get (List.getElem?_eq_getElem hi), .inr ⟨p, _, _, e2, e3, e1, rfl, rvs2 (RV.int.mpr rfl) rv⟩⟩
def mEnumK (k : Nat) (a : MA) : MI := fun ρ => (a ρ).bind fun xs ρ1 => match xs with
  | [x] => (match zitM x with | some xs => .ok (enumK k xs, ρ1) | _ => .stuck)
  | _ => .stuck
@[simp] theorem mEnumK_ap {k : Nat} {a : MA} {ρ : Env} {r : Option MV} : mEnumK k a (r :: ρ) = (a (r :: ρ)).bind fun xs ρ1 => match xs with
  | [x] => (match zitM x with | some xs => .ok (enumK k xs, ρ1) | _ => .stuck)
  | _ => .stuck := rfl
end Tm
set_option Elab.async false
set_option linter.all false
set_option maxRecDepth 100000
set_option maxHeartbeats 2000000
namespace Tm
open PySem L2 PySem.Spec PyProof.Rows HotX
def HotS (X : Cx) : Prop := ∀ (pins : List (Addr × Obj)) (σ : L2.St) (H : Hp) (s : Shared), Inv X pins σ H s → ∃ x1, HotAt X.A x1 s.heap
structure TurnS (P : Program) (w : World) (K : PySem.W.Frag) (tg : Expr) (J : It) (it : Addr) (tn : Nat → Heap → Prop) : Prop where
  obj : ∀ i h, tn i h → ∃ o, h.get? it = some o ∧ ∀ v, o.data ≠ .cell v
  keep : ∀ i h h', tn i h → (∀ o, h.get? it = some o → h'.get? it = some o) → tn i h'
  item : ∀ (X : Cx), X.prog = P → X.w = w → X.K = K → ∀ (i : Nat) (pins : List (Addr × Obj)) (s : Shared) (σ : L2.St) (H : Hp) (E : Value → Shared → Prop), Inv X pins σ H s → FpOk X pins H it → tn i s.heap → J.go i H →
    wpAny (model P w) X.A (pyNext (.ref it)) (fun r s1 => ∃ u, r = some u ∧ wpAny (model P w) X.A (letOwnedTupleGo tg (.ref it) u) (fun _ s2 => ∃ x H', Inv X pins σ H' s2 ∧ RelV x u ∧ J.yld i H x H' ∧ tn (i + 1) s2.heap ∧ H' it = none) E s1) E s
  done : ∀ (X : Cx), X.prog = P → X.w = w → X.K = K → HotS X → ∀ (i : Nat) (pins : List (Addr × Obj)) (s : Shared) (σ : L2.St) (H : Hp) (E : Value → Shared → Prop), Inv X pins σ H s → FpOk X pins H it → tn i s.heap → J.stop i H →
    wpAny (model P w) X.A (pyNext (.ref it)) (fun r s1 => r = none ∧ Inv X pins σ H s1) E s
  self : ∀ (A : Around) (i : Nat) (s : Shared) (Q : Value → Shared → Prop) (E : Value → Shared → Prop), tn i s.heap → Q (.ref it) s → wpAny (model P w) A (pyIter (.ref it)) Q E s
structure PIS (X : Cx) (tg iter : Expr) (wi : TI) : Prop where
  run : ∀ (pins : List (Addr × Obj)) (s : Shared) (σ : L2.St) (H : Hp) (R : It → Hp → Prop), Inv X pins σ H s → wi σ H R →
    wpAny (model X.prog X.w) X.A (eval iter X.env) (fun v s1 => wpAny (model X.prog X.w) X.A (pyIter v) (fun u s2 => ∃ (it : Addr) (tn : Nat → Heap → Prop) (J : It) (H' : Hp), u = .ref it ∧ Inv X pins σ H' s2 ∧ TurnS X.prog X.w X.K tg J it tn ∧ tn 0 s2.heap ∧ FpOk X pins H' it ∧ R J H') X.xe s1) X.xe s
end Tm
set_option Elab.async false
set_option linter.all false
set_option maxRecDepth 100000
set_option maxHeartbeats 2000000
namespace Tm
open PySem L2 PySem.Spec PyProof.Rows
open Evl (Ex ex_rd ex_l ex_t)
structure FnE (P : Program) (w : World) (K : PySem.W.Frag) (mg : Str → Option Value) (base : Heap) (CX : CXT) (k : Nat) (f : Addr) (fd : FuncData) (ps : List Str) (sp : Addr × Obj → Sp) : Prop where
  len : ∀ p vs H Q E, sp p vs H Q E → vs.length = ps.length
  run : ∀ (A : Around) (outer : List PySem.Env) (s : Shared) (H : Hp) (args : Args) (us : List Value) (vs : List V) (Q : VK) (E : XK) (p : Addr × Obj), L2H.RoomH k A → L2H.Hot1 A p → L2H.PinOk outer H s p → Env0 P w K mg base A outer s H → BindsTo s fd args (ps.zip us) → Vals vs us → sp p vs H Q E →
    codeAny (model P w) A (.call (.ref f) args) (CR CX outer P w H s Q E) s
def spE (K : PySem.W.Frag) (mg : Str → Option Value) (ts : List Str) (f : MX → Res (MV × Env)) : Addr × Obj → Sp := fun p vs H Q _ => vs = [.ref p.1] ∧ ∃ (F Hk : Hp) (e : MX) (C : Addr) (d : Option Addr) (v : MV) (ρ' : Env), Ex Hk H ∧ Ex F H ∧ (∀ a o, F a = some o → Hk a = none) ∧
  mg e.cls = some (.ref C) ∧ e.cls ∈ ts ∧ L2N.Zn (.ref C) d p.2 ∧ (∃ vs, p.2.data = .fields vs) ∧ XIn F e d ∧ f e = .ok (v, ρ') ∧ flatM v = true ∧ ∀ Hk' H' u, Ex Hk Hk' → Ex Hk' H' → Ex F H' → (∀ a o, F a = some o → Hk' a = none) → RV K Hk' v u → Q u H'
structure FdE (P : Program) (w : World) (K : PySem.W.Frag) (mg : Str → Option Value) (base : Heap) (x : Str) (k : Nat) (q : Str) (ts : List Str) (f : MX → Res (MV × Env)) : Prop where
  ex : ∃ (a : Addr) (fd : FuncData), FnE P w K mg base (L2N.CX P w) k a fd [q] (spE K mg ts f) ∧ mg x = some (.ref a) ∧ PySem.W.keepIn K (.ref a) = true ∧ Binds K fd [q] []
structure KiB (K : PySem.W.Frag) (mg : Str → Option Value) (T : String) (x : Str) : Prop where
  ex : ∃ C, mg x = some (.ref C) ∧ PySem.W.kitOne K (.ref C) (.type T) = some true
end Tm
set_option Elab.async false
set_option linter.all false
set_option maxRecDepth 100000
set_option maxHeartbeats 2000000
namespace Tm
open PySem L2 PySem.Spec PyProof.Rows
open Evl (Ex ex_rd ex_l ex_t)
inductive HdE (X : Cx) (n : Str) : List ExceptHandler → List (Value × (Addr → Value → Option Addr → TS)) → Prop
  | nil : HdE X n [] []
  | cons {y : Str} {c : Value} {ts : Addr → Value → Option Addr → TS} {b₀ : Stmt} {suite : List Stmt} {np p : Pos} {hds : List ExceptHandler} {l : List (Value × (Addr → Value → Option Addr → TS))} (hc : Names X y c)
      (hsu : ∀ (a : Addr) (oe : Obj) (cls : Value) (d : Option Addr) (pn : List (Addr × Obj)), L2N.Zn cls d oe → (∃ vs, oe.data = .fields vs) → PSs (X.suite a ((a, oe) :: pn)) (b₀ :: suite) (ts a cls d)) (r : HdE X n hds l) :
      HdE X n (.ExceptHandler (some (.Name y np)) (some n) (b₀ :: suite) p :: hds) ((c, ts) :: l)
inductive HdM (X : Cx) (c : Ct) (i : Nat) (n : Str) : List ExceptHandler → List (List (Str × Bool) × (MX → MS)) → Prop
  | nil : HdM X c i n [] []
  | cons {y : Str} {b₀ : Stmt} {suite : List Stmt} {np p : Pos} {hds : List ExceptHandler} {tab : List (Str × Bool)} {mh : MX → MS} {l : List (List (Str × Bool) × (MX → MS))} (hg : Gl X y) (ht : ∀ p ∈ tab, ExT X.K X.mg y p.1 p.2) (hne : ∃ D, X.mg y = some (.ref D))
      (hsu : ∀ (a : Addr) (oe : Obj) (C : Addr) (d : Option Addr) (pn : List (Addr × Obj)) (e : MX), X.mg e.cls = some (.ref C) → (e.cls, true) ∈ tab → L2N.Zn (.ref C) d oe → (∃ vs, oe.data = .fields vs) → PSs (X.suite a ((a, oe) :: pn)) (b₀ :: suite) (rdS (cH c i a e d) (mh e)))
      (hdb : (y == ("__debug__" : Str)) = false) (r : HdM X c i n hds l) :
      HdM X c i n (.ExceptHandler (some (.Name y np)) (some n) (b₀ :: suite) p :: hds) ((tab, mh) :: l)
end Tm
set_option Elab.async false
set_option linter.all false
set_option maxRecDepth 100000
set_option maxHeartbeats 2000000
namespace Tm
open PySem L2 PySem.Spec PyProof.Rows
open Evl (Ex ex_rd ex_l ex_t)
def dctAt (ks : List Key) (xs : List MV) (k : Key) : Option MV := ((ks.zip xs).find? fun p => decide (p.1 = k)).map (·.2)
theorem dctAt_rv {K : PySem.W.Frag} {H : Hp} : ∀ {ks : List Key} {xs : List MV} {vs : List V} (k : Key), RVs K H xs vs → (∀ x, dctAt ks xs k = some x → ∃ v, valV (ks.zip vs) k = some v ∧ RV K H x v) ∧ (dctAt ks xs k = none → valV (ks.zip vs) k = none)
  | [], xs, vs, k, _ => ⟨fun x h => by simp [dctAt] at h, fun _ => by simp [valV]⟩
  | a :: ks, [], vs, k, r => by
    rw [RVs.nil.mp r]
    exact ⟨fun x h => by simp [dctAt] at h, fun _ => by simp [valV]⟩
  | a :: ks, x :: xs, vs, k, r => by
    obtain ⟨v, us, rfl, r1, r2⟩ := RVs.cons.mp r
    obtain ⟨i1, i2⟩ := dctAt_rv (ks := ks) k r2
    unfold dctAt at *
    rw [List.zip_cons_cons, List.zip_cons_cons, List.find?_cons]
    by_cases e : a = k
    · rw [valV_pos (p := (a, v)) e]
      simp only [e, decide_true]
      exact ⟨fun y h => by simp at h; subst h; exact ⟨v, rfl, r1⟩, fun h => by simp at h⟩
    · rw [valV_neg (p := (a, v)) e]
      simp only [e, decide_false]
      exact ⟨i1, i2⟩
def keyM : MV → Option Key
  | .int i => some (.inl i)
  | .str z => some (.inr z)
  | _ => none
theorem keyM_rv {K : PySem.W.Frag} {H : Hp} {x : MV} {k : Key} {v : V} (e : keyM x = some k) (r : RV K H x v) : v = kV k := by
  unfold keyM at e
  split at e
  · cases e; exact RV.int.mp r
  · cases e; exact RV.str.mp r
  · cases e
def fDix (x y : MV) : Option MV := match x, keyM y with
  | .dct ks xs, some k => dctAt ks xs k
  | _, _ => none
theorem os_dix {K : PySem.W.Frag} : OpS K fDix (fun x y H Q => ∃ a v, x = .ref a ∧ DGet H a y (some v) ∧ Q v H) := by
  intro x y z v w Hk H Q e ex r1 r2 q qn
  unfold fDix at e
  split at e
  · rename_i ks xs k ek
    obtain ⟨a, vs, rfl, h1, h2, h3⟩ := RV.dct.mp r1
    have := keyM_rv ek r2
    subst this
    obtain ⟨u, e1, e2⟩ := (dctAt_rv (ks := ks) k h3).1 z e
    refine ⟨a, u, rfl, ?_, q u e2⟩
    rw [← e1]
    exact DGet.k (ex _ _ h1)
  · cases e
section
variable {X : Cx} {c : Ct} {pos apos cpos : Pos} {k : Nat}
theorem me_dix {a b : Expr} {ma mb : ME} (hr : X.A.units + 64 < cLine) (ha : PE X a (rdE c ma)) (hb : PE X b (rdE c mb)) (hs : NoSl b := by exact fun _ _ => rfl) : PE X (.Subscript a b pos) (rdE c (mOp fDix ma mb)) :=
  PEw (pe_dget (by omega) ha hb hs) fun _ _ _ q => rd_op os_dix q
end
section
variable {K : PySem.W.Frag} {F Hk H : Hp} {bp : List (Nat × Addr)} {σ : L2.St} {ρ : Env}
theorem RS.frame (S : RS K F Hk H bp σ ρ) {p : Addr} (o : HO) (h : H p = none) : RS K (upd F p o) Hk (upd H p o) bp σ ρ := by
  obtain ⟨ow, s⟩ := S.ow
  have np : ∀ i a, a ∈ ow i → a ≠ p := fun i a ha z => s.fresh h i (by rw [← z]; exact ha)
  have s2 : SL K F Hk (upd H p o) ow σ ρ := s.step (Ex.refl _) fun i a ha => ⟨upd_ne (np i a ha), (s.f i a ha).1⟩
  have hk : Hk p = none := S.ex.back h
  refine ⟨S.len, S.ex.mut hk, fun a u q => ?_, fun a u q => ?_, ⟨ow, s2.s, fun i a q => ⟨(s2.f i a q).1, by rw [upd_ne (np i a q)]; exact (s2.f i a q).2.1, (s2.f i a q).2.2⟩, s2.w, s2.d⟩, S.bor⟩
  · by_cases e : a = p
    · subst e; rw [upd_same] at q ⊢; exact q
    · rw [upd_ne e] at q ⊢; exact S.fr a u q
  · by_cases e : a = p
    · subst e; exact hk
    · rw [upd_ne e] at q; exact S.frk a u q
theorem RS.unframe {p : Addr} {o : HO} (S : RS K (upd F p o) Hk H bp σ ρ) (hF : F p = none) : RS K F Hk H bp σ ρ := by
  have ne : ∀ a u, F a = some u → a ≠ p := fun a u q z => by subst z; rw [hF] at q; cases q
  obtain ⟨ow, s⟩ := S.ow
  refine ⟨S.len, S.ex, fun a u q => S.fr a u (by rw [upd_ne (ne a u q)]; exact q), fun a u q => S.frk a u (by rw [upd_ne (ne a u q)]; exact q), ⟨ow, s.s, fun i a q => ⟨(s.f i a q).1, ?_, (s.f i a q).2.2⟩, s.w, s.d⟩, S.bor⟩
  have z := (s.f i a q).2.1
  by_cases e : a = p
  · subst e; rw [upd_same] at z; cases z
  · rw [upd_ne e] at z; exact z
theorem RS.landD {p : Addr} {o : HO} (S : RS K (upd F p o) Hk H bp σ ρ) (hF : F p = none) (o2 : HO) : RS K F (upd Hk p o2) (upd H p o2) bp σ ρ := by
  have ne : ∀ a u, F a = some u → a ≠ p := fun a u q z => by subst z; rw [hF] at q; cases q
  have hk : Hk p = none := S.frk p o upd_same
  have S2 := S.unframe hF
  obtain ⟨ow0, s0⟩ := S.ow
  have np : ∀ i a, a ∈ ow0 i → a ≠ p := fun i a ha z => by
    have := (s0.f i a ha).2.1
    subst z
    rw [upd_same] at this; cases this
  have s1 : SL K F Hk H ow0 σ ρ := by
    refine ⟨s0.s, fun i a q => ⟨(s0.f i a q).1, ?_, (s0.f i a q).2.2⟩, s0.w, s0.d⟩
    have z := (s0.f i a q).2.1
    rw [upd_ne (np i a q)] at z; exact z
  refine ⟨S.len, fun a u q => ?_, fun a u q => ?_, fun a u q => ?_, ⟨ow0, s1.step (Ex.new hk) fun i a ha => ⟨upd_ne (np i a ha), by rw [upd_ne (np i a ha)]; exact (s1.f i a ha).1⟩⟩, S.bor⟩
  · by_cases e : a = p
    · subst e; rw [upd_same] at q ⊢; exact q
    · rw [upd_ne e] at q ⊢; exact S.ex a u q
  · rw [upd_ne (ne a u q)]; exact S2.fr a u q
  · rw [upd_ne (ne a u q)]; exact S2.frk a u q
end
structure DPs (X : Cx) (c : Ct) (pos : Pos) (keys : List (Option Expr)) (values : List Expr) (ks : List Key) (m : MA) : Prop where
  ex : ∃ trs, PPs X pos keys values trs ∧ ∀ (σ : L2.St) (H : Hp) (Q : List (V × V) → Hp → Prop), rdA c m σ H (fun vs H' => Q ((ks.map kV).zip vs) H') → tPairs trs σ H Q
section
variable {X : Cx} {c : Ct} {pos p1 p2 : Pos} {keys : List (Option Expr)} {values : List Expr} {ks : List Key} {m : MA} {v : Expr} {a : ME}
theorem dp_nil : DPs X c pos [] [] [] mNil := ⟨[], pps_nil, fun σ H Q h => by
  obtain ⟨F, Hk, bp, ρ, S, h⟩ := h
  exact h _ _ _ (Ex.refl _) S.1 (RVs.nil.mpr rfl)⟩
theorem dp_cons {kx : Expr} {k : Key} (hk : PE X kx (tC (kV k))) (hv : PE X v (rdE c a)) (r : DPs X c pos keys values ks m) : DPs X c pos (some kx :: keys) (v :: values) (k :: ks) (mCons a m) := by
  obtain ⟨trs, e1, e2⟩ := r.ex
  refine ⟨(tC (kV k), rdE c a) :: trs, pps_cons hk hv e1, fun σ H Q h => ?_⟩
  obtain ⟨F, Hk, bp, ρ, S, h⟩ := h
  show rdE c a σ H fun y H2 => tPairs trs σ H2 fun ps H3 => Q ((kV k, y) :: ps) H3
  refine rdw (bE postA S h) fun v H1 ⟨Hk1, x, ρ1, x1, S1, r1, h1⟩ => e2 _ _ _ ?_
  refine rdAw (bA postA S1 h1) fun vs H2 ⟨Hk2, xs, ρ2, x2, S2, r2, h2⟩ => ?_
  exact h2 _ _ _ (Ex.refl _) S2.1 (RVs.cons.mpr ⟨v, vs, rfl, RV.mono x2 _ _ r1, r2⟩)
theorem dp_str {z : Str} {j : Nat} (hv : PE X v (rdE c a)) (r : DPs X c pos keys values ks m) : DPs X c pos (some (.Constant (.str z) j p1) :: keys) (v :: values) (.inr z :: ks) (mCons a m) := dp_cons (k := .inr z) pe_str hv r
def mDict (ks : List Key) (m : MA) : ME := fun ρ => (m ρ).bind fun xs ρ1 => if decide (ks.length = xs.length) && decide (ks.length ≤ 15) && decide ks.Nodup then .ok (.dct ks xs, ρ1) else .stuck
theorem merge_nodup : ∀ (more kvs : List (Key × V)), (kvs.map (·.1) ++ more.map (·.1)).Nodup → mergeK kvs more = kvs ++ more
  | [], kvs, _ => by simp [mergeK]
  | p :: r, kvs, h => by
    have nk : valV kvs p.1 = none := by
      cases e : valV kvs p.1 with
      | none => rfl
      | some z =>
        exfalso
        have := valV_any p.1 kvs
        rw [e] at this
        simp only [Option.isSome_some] at this
        obtain ⟨q, hq, hq2⟩ := List.any_eq_true.mp this
        rw [List.map_cons] at h
        have := (List.nodup_append.mp h).2.2 q.1 (List.mem_map.mpr ⟨q, hq, rfl⟩) p.1 (by simp)
        exact this (of_decide_eq_true hq2)
    show mergeK (putK kvs p.1 p.2) r = _
    rw [putK_new p.2 nk, merge_nodup r (kvs ++ [(p.1, p.2)]) (by
      rw [List.map_append, List.append_assoc]
      simpa using h)]
    simp
theorem me_dict (h : DPs X c pos keys values ks m) (hall : keys.all (·.isSome) = true := by rfl) (hl : keys.length = values.length := by rfl) (h0 : keys ≠ [] := by intro z; cases z) (h15 : keys.length ≤ 15 := by decide) : PE X (.Dict keys values pos) (rdE c (mDict ks m)) := by
  obtain ⟨trs, e1, e2⟩ := h.ex
  refine PEw (pe_disp e1 hall hl h0 h15) fun σ H Q h => ?_
  obtain ⟨F, Hk, bp, ρ, S, h⟩ := h
  intro p hp
  have hF : F p = none := S.1.fr.back hp
  refine e2 _ _ _ ⟨upd F p (.dK []), Hk, bp, ρ, ⟨S.1.frame (.dK []) hp, S.2.1, c.Jm _ _ _ (Ex.new hF) S.2.2⟩, ?_⟩
  unfold mDict at h
  cases em : m ρ with
  | stuck => rw [em] at h; exact h.elim
  | exc e ρ1 =>
    rw [em] at h
    exact fun Hk' H' cls d x S1 er => h Hk' H' cls d x (S1.unframe hF) er
  | ok r =>
    obtain ⟨xs, ρ1⟩ := r
    rw [em] at h
    intro Hk2 H2 vs x S2 r2
    have h : okE c F Hk bp σ Q (if decide (ks.length = xs.length) && decide (ks.length ≤ 15) && decide ks.Nodup then .ok (.dct ks xs, ρ1) else .stuck) := h
    split at h
    · rename_i hc
      simp only [Bool.and_eq_true, decide_eq_true_eq] at hc
      obtain ⟨⟨c1, c2⟩, c3⟩ := hc
      have lv : ks.length = vs.length := by rw [c1, r2.length]
      have mz : (ks.zip vs).map (·.1) = ks := by
        rw [← List.unzip_fst, List.unzip_zip lv]
      refine ⟨S2.fr p _ upd_same, ks.zip vs, ?_, by rw [List.length_zip]; omega, ?_⟩
      · rw [List.zip_map_left]; rfl
      · rw [merge_nodup _ _ (by rw [mz]; simpa using c3), List.nil_append]
        have S3 := S2.landD hF (.dK (ks.zip vs))
        have hk2 : Hk2 p = none := S2.frk p _ upd_same
        exact h _ _ _ (x.trans (Ex.new hk2)) S3 (RV.dct.mpr ⟨p, vs, rfl, upd_same, c1, r2.mono (Ex.new hk2)⟩)
    · exact h.elim
end
def dctIs : List (Str × MV) → List DictEntry → Bool
  | [], [] => true
  | p :: t, e :: r => e.key.isStr p.1 && flatIs p.2 e.val && dctIs t r
  | _, _ => false
structure DCst (K : PySem.W.Frag) (w : World) (mg : Str → Option Value) (x : Str) (tab : List (Str × MV)) : Prop where
  ex : ∃ a es n, mg x = some (.ref a) ∧ KDict K w a es n ∧ dctIs tab es.toList = true
theorem isStr_key {k : Value} {z : Str} (h : k.isStr z = true) : ∃ t, k = .str z t := by
  rw [PySem.W.isStr_of] at h
  exact Value.isStrOf_shape h
theorem dct_find (z : Str) : ∀ {tab : List (Str × MV)} {es : List DictEntry}, dctIs tab es = true → (tab.lookup z = none → es.find? (·.key.isStr z) = none ∧ es.any (·.refKey) = false) ∧ ∀ v, tab.lookup z = some v → ∃ e, es.find? (·.key.isStr z) = some e ∧ flatIs v e.val = true
  | [], [], _ => ⟨fun _ => ⟨rfl, rfl⟩, fun v h => by simp at h⟩
  | [], _ :: _, h => by simp [dctIs] at h
  | _ :: _, [], h => by simp [dctIs] at h
  | p :: t, e :: r, h => by
    simp only [dctIs, Bool.and_eq_true] at h
    obtain ⟨⟨h1, h2⟩, h3⟩ := h
    obtain ⟨tk, ek⟩ := isStr_key h1
    obtain ⟨i1, i2⟩ := dct_find z h3
    rw [List.lookup_cons, List.find?_cons, List.any_cons]
    by_cases q : z = p.1
    · subst q
      rw [h1]
      simp only [BEq.rfl]
      exact ⟨fun h => (by cases h), fun v hv => ⟨e, rfl, (by cases hv; exact h2)⟩⟩
    · have b1 : (z == p.1) = false := by simpa using q
      have b2 : e.key.isStr z = false := by
        cases hb : e.key.isStr z with
        | false => rfl
        | true =>
          obtain ⟨t2, e2⟩ := isStr_key hb
          rw [ek] at e2
          cases e2
          exact absurd rfl q
      have b3 : e.refKey = false := by
        unfold DictEntry.refKey
        rw [ek]
      rw [b1, b2, b3]
      exact ⟨i1, i2⟩
theorem flat_isA {K : PySem.W.Frag} {x : MV} {v : Value} (h : flatIs x v = true) : ∃ w, RelV w v ∧ ∀ H, RV K H x w := by
  unfold flatIs at h
  split at h
  · rw [beq_iff_eq.mp h]; exact ⟨.int _, ⟨_, rfl⟩, fun _ => RV.int.mpr rfl⟩
  · rw [beq_iff_eq.mp h]; exact ⟨.str _, ⟨_, rfl⟩, fun _ => RV.str.mpr rfl⟩
  · exact ⟨.non, rfl, fun _ => RV.non.mpr rfl⟩
  · rw [beq_iff_eq.mp h]; exact ⟨.bl _, rfl, fun _ => RV.bl.mpr rfl⟩
  · cases h
theorem dct_ns {K : PySem.W.Frag} {w : World} {a : Addr} {es : Array DictEntry} {n : Nat} {tab : List (Str × MV)} (D : KDict K w a es n) (h : dctIs tab es.toList = true) (z : Str) :
    (tab.lookup z = none → PySem.W.nsIn K a z = some none) ∧ ∀ v, tab.lookup z = some v → ∃ u y, PySem.W.nsIn K a z = some (some u) ∧ RelV y u ∧ ∀ H, RV K H v y := by
  obtain ⟨i1, i2⟩ := dct_find z h
  unfold PySem.W.nsIn
  rw [D.at_]
  refine ⟨fun hz => ?_, fun v hv => ?_⟩
  · obtain ⟨a1, a2⟩ := i1 hz
    simp only [a1, a2]
    rfl
  · obtain ⟨e, a1, a2⟩ := i2 v hv
    simp only [a1]
    obtain ⟨y, r1, r2⟩ := flat_isA (K := K) a2
    exact ⟨e.val, y, rfl, r1, r2⟩
section
variable {X : Cx} {c : Ct} {pos p apos cpos : Pos} {x : Str} {tab : List (Str × MV)} {e : Expr} {m : ME}
def mKin (tab : List (Str × MV)) (a : ME) : ME := fun ρ => (a ρ).bind fun x ρ1 => match x with
  | .str z => .ok (.bl (tab.lookup z).isSome, ρ1)
  | _ => .stuck
def mKix (tab : List (Str × MV)) (a : ME) : ME := fun ρ => (a ρ).bind fun x ρ1 => match x with
  | .str z => (match tab.lookup z with | some v => .ok (v, ρ1) | none => .stuck)
  | _ => .stuck
def mKget (tab : List (Str × MV)) (a : ME) : ME := fun ρ => (a ρ).bind fun x ρ1 => match x with
  | .str z => .ok ((tab.lookup z).getD .non, ρ1)
  | _ => .stuck
theorem mt_kin (D : DCst X.K X.w X.mg x tab) (he : PE X e (rdE c m)) (hg : Gl X x := by rfl) (hm : behindInMarks .In (.Name x p) = false := by rfl) (hK : c.K = X.K := by rfl) (hd : (x == ("__debug__" : Str)) = false := by decide) : PT X (.Compare e [.In] [.Name x p] pos) (rdT c (mTest (mKin tab m))) := by
  obtain ⟨a, es, n, h1, h2, h3⟩ := D.ex
  refine PTw (pt_cmpR (op_in_kd h2) he (pe_glob hg h1 (v := .ref a) rfl hd) hm) fun σ H Q h => ?_
  have h := rd_test h
  obtain ⟨F, Hk, bp, ρ, S, h⟩ := h
  refine rdw (bE postE S h) fun v H1 ⟨Hk1, y, ρ1, x1, S1, r1, q1⟩ => ?_
  split at q1
  · rename_i z
    obtain rfl := RV.str.mp r1
    obtain ⟨n1, n2⟩ := dct_ns h2 h3 z
    cases el : tab.lookup z with
    | none => rw [el] at q1; exact ⟨z, none, rfl, rfl, n1 el, q1 _ _ _ (Ex.refl _) S1.1 (RV.bl.mpr rfl)⟩
    | some w =>
      obtain ⟨u, y2, e1, _, _⟩ := n2 w el
      rw [el] at q1
      exact ⟨z, some u, rfl, rfl, e1, q1 _ _ _ (Ex.refl _) S1.1 (RV.bl.mpr rfl)⟩
  · exact q1.elim
theorem me_kix (D : DCst X.K X.w X.mg x tab) (he : PE X e (rdE c m)) (hg : Gl X x := by rfl) (hs : PlainIx e := by exact fun _ _ => rfl) (hK : c.K = X.K := by rfl) (hd : (x == ("__debug__" : Str)) = false := by decide) : PE X (.Subscript (.Name x p) e pos) (rdE c (mKix tab m)) := by
  obtain ⟨a, es, n, h1, h2, h3⟩ := D.ex
  refine PEw (pe_ix ix_kdict (pe_glob hg h1 (v := .ref a) rfl hd) he hs) fun σ H Q h => ?_
  show rdE c m σ H fun y H2 => rIxD X.K X.w (.ref a) y H2 Q
  obtain ⟨F, Hk, bp, ρ, S, h⟩ := h
  refine rdw (bE postE S h) fun v H1 ⟨Hk1, y, ρ1, x1, S1, r1, q1⟩ => ?_
  split at q1
  · rename_i z
    obtain rfl := RV.str.mp r1
    obtain ⟨n1, n2⟩ := dct_ns h2 h3 z
    cases el : tab.lookup z with
    | none => rw [el] at q1; exact q1.elim
    | some w =>
      obtain ⟨u, y2, e1, e2, e3⟩ := n2 w el
      rw [el] at q1
      exact ⟨a, z, y2, rfl, rfl, ⟨es, n, u, h2.at_, h2.lit, e1, e2⟩, q1 _ _ _ (Ex.refl _) S1.1 (by rw [hK]; exact e3 _)⟩
  · exact q1.elim
theorem pe_kget {te : TE} {a : Addr} {es : Array DictEntry} {n : Nat} (h1 : X.mg x = some (.ref a)) (D : KDict X.K X.w a es n) (he : PE X e te) (m : M1 X (.Name x p) "get" apos e cpos) (hg : Gl X x := by rfl) (hd : (x == ("__debug__" : Str)) = false := by decide) :
    PE X (.Call (.Attribute (.Name x p) "get" apos) [e] [] cpos) (fun σ H Q => te σ H fun y H2 => ∃ z r v, y = .str z ∧ PySem.W.nsIn X.K a z = some r ∧ (∀ u, r = some u → RelV v u) ∧ (r = none → v = .non) ∧ Q v H2) := by
  refine ⟨fun pins s σ H Q I h => ?_⟩
  refine wpAny_Call_method m.base m.few m.line PySem.F.plainAttrs_dict PySem.F.slot_dict_get PySem.F.type_dict_get (ld_glob I hg h1 ?_ hd)
  have hm := PySem.W.mapOf_K (prog := X.prog) (w := X.w) I.kIn D.at_ D.lit
  refine ⟨hm.typeIs, fun b q => ?_, ?_⟩
  · cases q
    exact ⟨_, I.kIn _ _ D.at_, rfl⟩
  · rw [m.trees]
    refine Calls.callWith_builtin rfl (Calls.evalArgs_plain (Calls.spliced_cons (thn (he.run pins s σ H _ I h) fun iv s2 ⟨y, H2, I2, ry, z, r, v, ey, en, v1, v2, q2⟩ => Calls.spliced_nil ?_)))
    subst ey
    obtain ⟨t, rfl⟩ := ry
    have hm2 := PySem.W.mapOf_K (prog := X.prog) (w := X.w) I2.kIn D.at_ D.lit
    refine call_meetsIn PySem.F.slot_dict_get hm2.typeIs PySem.F.entry_dict_get (PySem.F.args_dict_get_2 _ _) (meets_dict_get (strKind X.prog X.w) a (strKind_is X.prog X.w z t) D.low) ⟨_, hm2, ?_⟩
    have fd := PySem.W.find_K D.at_ en
    rw [fd]
    cases r with
    | none => rw [v2 rfl] at q2; exact ⟨.non, H2, I2.tok _, rfl, q2⟩
    | some u => exact ⟨v, H2, I2.tok _, v1 u rfl, q2⟩
theorem me_kget (D : DCst X.K X.w X.mg x tab) (he : PE X e (rdE c m)) (m1 : M1 X (.Name x p) "get" apos e cpos) (hg : Gl X x := by rfl) (hd : (x == ("__debug__" : Str)) = false := by decide) (hK : c.K = X.K := by rfl) : PE X (.Call (.Attribute (.Name x p) "get" apos) [e] [] cpos) (rdE c (mKget tab m)) := by
  obtain ⟨a, es, n, h1, h2, h3⟩ := D.ex
  refine PEw (pe_kget h1 h2 he m1 hg hd) fun σ H Q h => ?_
  obtain ⟨F, Hk, bp, ρ, S, h⟩ := h
  refine rdw (bE postE S h) fun v H1 ⟨Hk1, y, ρ1, x1, S1, r1, q1⟩ => ?_
  split at q1
  · rename_i z
    obtain rfl := RV.str.mp r1
    obtain ⟨n1, n2⟩ := dct_ns h2 h3 z
    cases el : tab.lookup z with
    | none => rw [el] at q1; exact ⟨z, none, .non, rfl, n1 el, fun u h => (by cases h), fun _ => rfl, q1 _ _ _ (Ex.refl _) S1.1 (RV.non.mpr rfl)⟩
    | some w =>
      obtain ⟨u, y2, e1, e2, e3⟩ := n2 w el
      rw [el] at q1
      exact ⟨z, some u, y2, rfl, e1, fun u' h => (by cases h; exact e2), fun h => (by cases h), q1 _ _ _ (Ex.refl _) S1.1 (by rw [hK]; exact e3 _)⟩
  · exact q1.elim
end
end Tm
set_option Elab.async false
set_option linter.all false
set_option maxRecDepth 100000
set_option maxHeartbeats 2000000
namespace Tm
open PySem L2 PySem.Spec PyProof.Rows
open Evl (Ex ex_rd ex_l ex_t)
theorem meets_enumT {v : Value} {o : Obj} {H : Heap → Prop} (B : Begins v o H) :
    Meets (Builtin.«enumerate.__new__» ⟨[.type "enumerate", v], []⟩) (fun _ R s => H s.heap ∧
      R (.ok (.ret (.ref (s.heap.push o).objs.size))) { s with heap := (s.heap.push o).push { cls := .type "enumerate", data := .fields #[.none, .bool false, .ref s.heap.objs.size, rawInt 0, .none, .none] } }) :=
  .of_wp fun prog w A R s h => by
    obtain ⟨hp, g, d, tk, os⟩ := s; obtain ⟨h1, h⟩ := h
    have hsub := sub_enumerate
    have q1 : ∀ {A' : Around} {E : Value → Shared → Prop} {Q : Value → Shared → Prop}, Q (.ref hp.objs.size) ⟨hp.push o, g, d, tk, os⟩ → wpAny (model prog w) A' (pyIter v) Q E ⟨hp, g, d, tk, os⟩ :=
      fun q => B.iter prog w _ _ ⟨hp, g, d, tk, os⟩ _ h1 q
    wp_walk using q1
    refine wpAny_stack_any fun st => wpAny_pure ?_
    split
    · rename_i c _ _ _ _ _
      cases (c == Value.type "enumerate")
      · wp_walk using q1
        exact ⟨_, rfl, h⟩
      · wp_walk using q1
        exact ⟨_, rfl, h⟩
    · wp_walk using q1
      exact ⟨_, rfl, h⟩
section
variable {prog : Program} {w : World} {A : Around} {E : Value → Shared → Prop} {s : Shared}
theorem enum_beginsT {v : Value} {o : Obj} {H : Heap → Prop} {Q : Value → Shared → Prop} (B : Begins v o H) (h1 : H s.heap)
    (h : ∀ h', IsEnum h' (s.heap.objs.size + 1) s.heap.objs.size 0 .none → h'.get? s.heap.objs.size = some o → h'.objs.size = s.heap.objs.size + 2 →
      (∀ b o, s.heap.get? b = some o → h'.get? b = some o) → Q (.ref (s.heap.objs.size + 1)) { s with heap := h' }) :
    wpAny (model prog w) A (call (.type "enumerate") [v]) Q E s := by
  refine callType_new F.called_enumerate (by decide) (F.typeCall_enumerate_1 _) (F.newCall_enumerate_1 _) (fun obj => F.args_object_init_2 obj _) F.entry_enumerate_new
    (meets_enumT B) ⟨h1, ?_⟩
  have hz : (s.heap.push o).objs.size = s.heap.objs.size + 1 := Heap.size_push ..
  show _ ∧ _
  rw [hz]
  have he : IsEnum ((s.heap.push o).push { cls := .type "enumerate", data := .fields #[.none, .bool false, .ref s.heap.objs.size, rawInt 0, .none, .none] }) (s.heap.objs.size + 1) s.heap.objs.size 0 .none := by
    have := Heap.get?_push_size (s.heap.push o) (o := { cls := .type "enumerate", data := .fields #[.none, .bool false, .ref s.heap.objs.size, rawInt 0, .none, .none] }) rfl
    rw [hz] at this; exact this
  refine ⟨⟨_, he, rfl⟩, h _ he (Heap.get?_push_of_some _ (Heap.get?_push_size _ B.free)) (by rw [Heap.size_push, hz]) fun b o x => Heap.get?_push_of_some _ (Heap.get?_push_of_some _ x)⟩
end
theorem pi_enumT {X : Cx} {e : Expr} {ta : TA} {p pos tpos : Pos} {elts : List Expr} {kk : Nat} (hg : Gl X "enumerate") (hm : X.mg "enumerate" = none) (ha : PA X [e] ta) (hs : starEach [e] X.env = [(false, eval e X.env)] := by rfl) :
    PI X (.Tuple elts kk tpos) (.Call (.Name "enumerate" p) [e] [] pos) (iEnumK 0 X.K ta) := by
  refine ⟨fun pins s σ H R I h => ?_⟩
  refine Call_ (ld_blt I hg hm boot_enumerate (PyProof.Rows.callWith_type1 (thn (ha.run pos pins s σ H _ I h) fun us s1 ⟨vs, H1, I1, r1, v, S, ex, z1, q⟩ => ?_) hs rfl))
  subst ex
  cases r1 with
  | cons ra rr =>
    cases rr
    obtain ⟨o1, Hb1, fp1, B1, b1, lt1, k1⟩ := zarg_begins I1 ra z1
    obtain ⟨tn1, A1, t1⟩ := k1 s1.heap.objs.size (Nat.le_refl _)
    refine enum_beginsT B1 b1 fun h' he' hit hsz hkp => wpAny_pyIter_enum he' ?_
    have I3 : Inv X pins σ H1 { s1 with heap := h' } := I1.kept (t' := s1.toks) hkp
    refine ⟨s1.heap.objs.size + 1, [s1.heap.objs.size + 1, s1.heap.objs.size], _, _, H1, rfl, I3, turn_enumK 0 A1 (Nat.succ_ne_self _) (fun hm2 => ?_), ⟨⟨.none, he'⟩, t1 h' hit⟩, fun b hb => ?_, q⟩
    · rcases List.mem_cons.mp hm2 with z | z
      · exact absurd z (Nat.succ_ne_self _)
      · exact absurd (lt1 _ z) (Nat.not_lt.mpr (Nat.le_succ _))
    · have e' : b = s1.heap.objs.size + 1 ∨ b = s1.heap.objs.size := by simpa using hb
      have hle : s1.heap.objs.size ≤ b := by
        rcases e' with z | z
        · rw [z]; exact Nat.le_add_right _ _
        · rw [z]; exact Nat.le_refl _
      exact I1.fpOk hle (I1.hok.fresh hle)
theorem mi_enumT {X : Cx} {c : Ct} {e : Expr} {m : MA} {p pos tpos : Pos} {elts : List Expr} {kk : Nat} (hm : X.mg "enumerate" = none) (ha : PA X [e] (rdA c m)) (hg : Gl X "enumerate" := by rfl) (hK : c.K = X.K := by rfl)
    (hs : starEach [e] X.env = [(false, eval e X.env)] := by rfl) :
    PI X (.Tuple elts kk tpos) (.Call (.Name "enumerate" p) [e] [] pos) (rdI c (mEnumK 0 m)) :=
  PIw (pi_enumT hg hm ha hs) fun σ H R ⟨F, Hk, bp, ρ, S, h⟩ => rdAw (bA postI S h) fun vs H1 ⟨Hk1, xs, ρ1, x1, S1, r1, h1⟩ => by
    split at h1
    · split at h1
      · rename_i z1
        obtain ⟨v, r, rfl, q1, q2⟩ := RVs.cons.mp r1
        rw [RVs.nil.mp q2]
        obtain ⟨T1, y1, y2⟩ := zit_arg S1.1.ex q1 z1
        exact ⟨v, T1, rfl, hK ▸ y1, h1 _ _ _ (Ex.refl _) S1.1 (walks_ek 0 y2)⟩
      · exact h1.elim
    · exact h1.elim
end Tm
set_option Elab.async false
set_option linter.all false
set_option maxRecDepth 100000
set_option maxHeartbeats 2000000
namespace Tm
open PySem L2
open Evl (Ex ex_rd ex_l ex_t)
theorem OV.dow {K : PySem.W.Frag} {Hk H : Hp} {ks : List Key} {xs : List MV} {v : V} {A : List Addr} : OV K Hk H (.dow ks xs) v A ↔ ∃ p vs, v = .ref p ∧ A = [p] ∧ H p = some (.dK (ks.zip vs)) ∧ ks.length = xs.length ∧ RVs K Hk xs vs := by
  unfold OV OF; rfl
end Tm
set_option Elab.async false
set_option linter.all false
set_option maxRecDepth 100000
set_option maxHeartbeats 2000000
namespace Tm
open PySem L2 PySem.Spec PyProof.Rows
open Evl (Ex ex_rd ex_l ex_t)
inductive Tst
  | one (c : Value)
  | two (c1 c2 : Value)
inductive TstE (X : Cx) : Expr → Tst → Prop
  | one {y : Str} {c : Value} {np : Pos} (hc : Names X y c) : TstE X (.Name y np) (.one c)
  | two {y1 y2 : Str} {c1 c2 : Value} {p1 p2 tp : Pos} {k : Nat} (h1 : Names X y1 c1) (h2 : Names X y2 c2) : TstE X (.Tuple [.Name y1 p1, .Name y2 p2] k tp) (.two c1 c2)
theorem TstE.suite {X : Cx} {te : Expr} {t : Tst} (h : TstE X te t) (a : Addr) (pn : List (Addr × Obj)) : TstE (X.suite a pn) te t := by
  cases h with
  | one hc => exact .one hc
  | two h1 h2 => exact .two h1 h2
inductive HdT (X : Cx) (n : Str) : List ExceptHandler → List (Tst × (Addr → Value → Option Addr → TS)) → Prop
  | nil : HdT X n [] []
  | cons {te : Expr} {t : Tst} {ts : Addr → Value → Option Addr → TS} {b₀ : Stmt} {suite : List Stmt} {p : Pos} {hds : List ExceptHandler} {l : List (Tst × (Addr → Value → Option Addr → TS))} (hc : TstE X te t)
      (hsu : ∀ (a : Addr) (oe : Obj) (cls : Value) (d : Option Addr) (pn : List (Addr × Obj)), L2N.Zn cls d oe → (∃ vs, oe.data = .fields vs) → PSs (X.suite a ((a, oe) :: pn)) (b₀ :: suite) (ts a cls d)) (r : HdT X n hds l) :
      HdT X n (.ExceptHandler (some te) (some n) (b₀ :: suite) p :: hds) ((t, ts) :: l)
structure ExT2 (K : PySem.W.Frag) (mg : Str → Option Value) (y1 y2 : Str) (x : Str) (b : Bool) : Prop where
  ex : ∃ C D1 D2, mg x = some (.ref C) ∧ mg y1 = some (.ref D1) ∧ mg y2 = some (.ref D2) ∧ PySem.W.exmAny K (.ref C) [.ref D1, .ref D2] = some b
inductive HdMT (X : Cx) (c : Ct) (i : Nat) (n : Str) : List ExceptHandler → List (List (Str × Bool) × (MX → MS)) → Prop
  | nil : HdMT X c i n [] []
  | cons {y : Str} {b₀ : Stmt} {suite : List Stmt} {np p : Pos} {hds : List ExceptHandler} {tab : List (Str × Bool)} {mh : MX → MS} {l : List (List (Str × Bool) × (MX → MS))} (hg : Gl X y) (ht : ∀ p ∈ tab, ExT X.K X.mg y p.1 p.2) (hne : ∃ D, X.mg y = some (.ref D))
      (hsu : ∀ (a : Addr) (oe : Obj) (C : Addr) (d : Option Addr) (pn : List (Addr × Obj)) (e : MX), X.mg e.cls = some (.ref C) → (e.cls, true) ∈ tab → L2N.Zn (.ref C) d oe → (∃ vs, oe.data = .fields vs) → PSs (X.suite a ((a, oe) :: pn)) (b₀ :: suite) (rdS (cH c i a e d) (mh e)))
      (hdb : (y == ("__debug__" : Str)) = false) (r : HdMT X c i n hds l) :
      HdMT X c i n (.ExceptHandler (some (.Name y np)) (some n) (b₀ :: suite) p :: hds) ((tab, mh) :: l)
  | two {y1 y2 : Str} {b₀ : Stmt} {suite : List Stmt} {p1 p2 tp p : Pos} {k : Nat} {hds : List ExceptHandler} {tab : List (Str × Bool)} {mh : MX → MS} {l : List (List (Str × Bool) × (MX → MS))} (hg1 : Gl X y1) (hg2 : Gl X y2) (ht : ∀ p ∈ tab, ExT2 X.K X.mg y1 y2 p.1 p.2) (hne1 : ∃ D, X.mg y1 = some (.ref D)) (hne2 : ∃ D, X.mg y2 = some (.ref D))
      (hsu : ∀ (a : Addr) (oe : Obj) (C : Addr) (d : Option Addr) (pn : List (Addr × Obj)) (e : MX), X.mg e.cls = some (.ref C) → (e.cls, true) ∈ tab → L2N.Zn (.ref C) d oe → (∃ vs, oe.data = .fields vs) → PSs (X.suite a ((a, oe) :: pn)) (b₀ :: suite) (rdS (cH c i a e d) (mh e)))
      (hdb1 : (y1 == ("__debug__" : Str)) = false) (hdb2 : (y2 == ("__debug__" : Str)) = false) (r : HdMT X c i n hds l) :
      HdMT X c i n (.ExceptHandler (some (.Tuple [.Name y1 p1, .Name y2 p2] k tp)) (some n) (b₀ :: suite) p :: hds) ((tab, mh) :: l)
end Tm
set_option Elab.async false
set_option linter.all false
set_option maxRecDepth 100000
set_option maxHeartbeats 2000000
namespace Tm
open PySem L2 PySem.Spec PyProof.Rows
open Evl (Ex ex_rd ex_l ex_t)
structure FnF (P : Program) (w : World) (K : PySem.W.Frag) (mg : Str → Option Value) (base : Heap) (j n : Nat) (T : List (Str × MF)) : Prop where
  ex : ∀ x f, T.lookup x = some f → ∀ a, PySem.W.nsIn K mainGlobals x = some (some (.ref a)) → ∃ j' fd ps, j' ≤ j ∧ FnOk P w K mg base (L2N.CX P w) j' a fd ps (spF K mg n [] f) ∧ PySem.W.keepIn K (.ref a) = true ∧ Binds K fd ps []
end Tm
set_option Elab.async false
set_option linter.all false
set_option maxRecDepth 100000
set_option maxHeartbeats 2000000
namespace Tm
open PySem L2
open Evl (Ex ex_rd ex_l ex_t)
mutual
theorem nh_eq (w : World) : ∀ {x : MV} {k : NestedKey}, nkI x = some k → k.hash w = nh k
  | .int i, k, h => by unfold nkI at h; cases h; rfl
  | .tup xs, k, h => by
    unfold nkI at h
    obtain ⟨ks, h1, rfl⟩ := Option.map_eq_some_iff.mp h
    show reduceHash (Builtin.Tuple.tupleHashOf (NestedKey.hashes w ks)) = reduceHash (Builtin.Tuple.tupleHashOf (nhs ks))
    rw [nhs_eq w h1]
  | .non, k, h => by simp [nkI] at h
  | .bl _, k, h => by simp [nkI] at h
  | .str _, k, h => by simp [nkI] at h
  | .lst _, k, h => by simp [nkI] at h
  | .own _, k, h => by simp [nkI] at h
  | .raw _, k, h => by simp [nkI] at h
  | .scr _, k, h => by simp [nkI] at h
  | .fnc _, k, h => by simp [nkI] at h
  | .obj _ _, k, h => by simp [nkI] at h
  | .dct _ _, k, h => by simp [nkI] at h
  | .dow _ _, k, h => by simp [nkI] at h
  | .dot _ _, k, h => by simp [nkI] at h
theorem nhs_eq (w : World) : ∀ {xs : List MV} {ks : List NestedKey}, nkIs xs = some ks → NestedKey.hashes w ks = nhs ks
  | [], ks, h => by unfold nkIs at h; cases h; rfl
  | x :: xs, ks, h => by
    unfold nkIs at h
    split at h
    · rename_i k r h1 h2
      cases h
      show k.hash w :: NestedKey.hashes w r = nh k :: nhs r
      rw [nh_eq w h1, nhs_eq w h2]
    · cases h
end
section
variable {X : Cx} {pins : List (Addr × Obj)} {σ : St} {H Hk : Hp} {s : Shared}
mutual
theorem nkI_is (I : Inv X pins σ H s) (ex : Ex Hk H) : ∀ {x : MV} {k : NestedKey} {v : V} {u : Value}, nkI x = some k → RV X.K Hk x v → RelV v u → NestedIs s.heap k u
  | .int i, k, v, u, h, r, ru => by
    unfold nkI at h; cases h
    rw [RV.int] at r; subst r
    obtain ⟨t, rfl⟩ := (show ∃ t, u = Value.int i t from ru)
    exact .int i t
  | .tup xs, k, v, u, h, r, ru => by
    unfold nkI at h
    obtain ⟨ks, h1, rfl⟩ := Option.map_eq_some_iff.mp h
    rw [RV.tup] at r
    obtain ⟨a, vs, rfl, q, rs⟩ := r
    obtain rfl : u = Value.ref a := ru
    obtain ⟨its, vl, ⟨o, ho, hc, n, hd⟩, _⟩ := I.tuple (ex_t ex q)
    refine .tup ho hc hd ?_
    rw [List.toList_toArray]
    exact nkIs_are I ex h1 rs vl
  | .non, k, v, u, h, r, ru => by simp [nkI] at h
  | .bl _, k, v, u, h, r, ru => by simp [nkI] at h
  | .str _, k, v, u, h, r, ru => by simp [nkI] at h
  | .lst _, k, v, u, h, r, ru => by simp [nkI] at h
  | .own _, k, v, u, h, r, ru => by simp [nkI] at h
  | .raw _, k, v, u, h, r, ru => by simp [nkI] at h
  | .scr _, k, v, u, h, r, ru => by simp [nkI] at h
  | .fnc _, k, v, u, h, r, ru => by simp [nkI] at h
  | .obj _ _, k, v, u, h, r, ru => by simp [nkI] at h
  | .dct _ _, k, v, u, h, r, ru => by simp [nkI] at h
  | .dow _ _, k, v, u, h, r, ru => by simp [nkI] at h
  | .dot _ _, k, v, u, h, r, ru => by simp [nkI] at h
theorem nkIs_are (I : Inv X pins σ H s) (ex : Ex Hk H) : ∀ {xs : List MV} {ks : List NestedKey} {vs : List V} {us : List Value}, nkIs xs = some ks → RVs X.K Hk xs vs → Vals vs us → NestedAll s.heap ks us
  | [], ks, vs, us, h, r, ru => by
    unfold nkIs at h; cases h
    rw [RVs.nil] at r; subst r
    cases ru
    exact .nil
  | x :: xs, ks, vs, us, h, r, ru => by
    unfold nkIs at h
    split at h
    · rename_i k ks' h1 h2
      cases h
      rw [RVs.cons] at r
      obtain ⟨v, vr, rfl, r1, r2⟩ := r
      cases ru with
      | cons a b => exact .cons (nkI_is I ex h1 r1 a) (nkIs_are I ex h2 r2 b)
    · cases h
end
end
def NKey (X : Cx) (H : Hp) (k : NestedKey) (b : Addr) : Prop := ∀ {pins : List (Addr × Obj)} {σ : St} {s : Shared}, Inv X pins σ H s → NestedIs s.heap k (.ref b) ∧ k.depth ≤ 8 ∧ k.hash X.w = nh k
theorem NKey.of {X : Cx} {H Hk : Hp} {x : MV} {k : NestedKey} {b : Addr} (ex : Ex Hk H) (h : nkI x = some k) (hd : k.depth ≤ 8) (r : RV X.K Hk x (.ref b)) : NKey X H k b := fun I => ⟨nkI_is I ex h r rfl, hd, nh_eq X.w h⟩
def NKeys (X : Cx) (H : Hp) (l : List (NestedKey × Addr × V)) : Prop := ∀ p ∈ l, NKey X H p.1 p.2.1
theorem KN.keys {X : Cx} {H Hk : Hp} (ex : Ex Hk H) : ∀ {ks xs : List MV} {l : List (NestedKey × Addr × V)}, KN X.K Hk ks xs l → NKeys X H l
  | [], [], _, h => by cases h; intro p hp; cases hp
  | [], _ :: _, _, h => h.elim
  | _ :: _, [], _, h => h.elim
  | k :: ks, x :: xs, _, h => by
    obtain ⟨nk, a, v, r, rfl, h2, h3, h4, h5, h6⟩ := h
    intro p hp
    rcases List.mem_cons.mp hp with rfl | hp
    · exact NKey.of ex h2 h3 h4
    · exact KN.keys ex h6 p hp
section
variable {X : Cx} {pins : List (Addr × Obj)} {σ : St} {H : Hp} {s : Shared} {a : Addr} {l : List (NestedKey × Addr × V)}
def NP (l : List (NestedKey × Addr × V)) (xs : List (NestedKey × Addr × Value)) : Prop := Paired (fun (a : NestedKey × Addr × V) (b : NestedKey × Addr × Value) => a.1 = b.1 ∧ a.2.1 = b.2.1 ∧ RelV a.2.2 b.2.2) l xs
theorem NP.keys {l : List (NestedKey × Addr × V)} {xs : List (NestedKey × Addr × Value)} (r : NP l xs) : ∀ x ∈ xs, ∃ p ∈ l, p.1 = x.1 ∧ p.2.1 = x.2.1 := by
  unfold NP at r
  induction r with
  | nil => intro x hx; cases hx
  | cons h t ih =>
    rename_i a b l1 l2
    intro x hx
    rcases List.mem_cons.mp hx with rfl | hx
    · exact ⟨_, List.mem_cons_self .., h.1, h.2.1⟩
    · obtain ⟨p, hp, e⟩ := ih x hx
      exact ⟨p, List.mem_cons_of_mem _ hp, e⟩
theorem nd_of (I : Inv X pins σ H s) (e : H a = some (.ext (nDict a l))) (hk : NKeys X H l) : l.length ≤ sizeLine ∧ (a == sysModules) = false ∧ ∃ xs, NP l xs ∧ s.heap.DictOfH (nestedKind X.prog X.w) a xs := by
  obtain ⟨⟨z, y, xs, r, o, es, ep, h1, h2, h3, h4, h5⟩, _, _⟩ := (show ObjOk X.prog X.w H s.heap a (.ext (nDict a l)) from I.hok a _ e)
  refine ⟨z, y, xs, r, o, es, ep, h1, h2, h3, ?_, ?_, h5⟩
  · rw [h4]
    apply List.map_congr_left
    intro x hx
    obtain ⟨p, hp, e1, e2⟩ := NP.keys r x hx
    obtain ⟨_, _, q⟩ := hk p hp I
    show nEntry x = entryOfKey (nestedKind X.prog X.w) x
    unfold nEntry entryOfKey
    rw [show (nestedKind X.prog X.w).hash x.1 = x.1.hash X.w from rfl, ← e1, q]
  · intro x hx
    obtain ⟨p, hp, e1, e2⟩ := NP.keys r x hx
    obtain ⟨q1, q2, _⟩ := hk p hp I
    rw [← e1, ← e2]
    exact ⟨q1, q2⟩
theorem nd_ok {H' : Hp} {h' : Heap} {l : List (NestedKey × Addr × V)} {xs : List (NestedKey × Addr × Value)} (z : l.length ≤ sizeLine) (y : (a == sysModules) = false) (r : NP l xs) (d : h'.DictOfH (nestedKind X.prog X.w) a xs) (hh : ∀ x ∈ xs, x.1.hash X.w = nh x.1) : ObjOk X.prog X.w H' h' a (.ext (nDict a l)) := by
  obtain ⟨o, es, ep, h1, h2, h3, h4, _, h5⟩ := d
  refine ⟨⟨z, y, xs, r, o, es, ep, h1, h2, h3, ?_, h5⟩, ⟨o, h1⟩, ?_⟩
  · rw [h4]
    apply List.map_congr_left
    intro x hx
    unfold nEntry entryOfKey
    rw [show (nestedKind X.prog X.w).hash x.1 = x.1.hash X.w from rfl, hh x hx]
  · rintro g1 g2 ⟨z, y, xs, r, o, es, ep, k1, k⟩ q
    exact ⟨z, y, xs, r, o, es, ep, q o k1, k⟩
def nAt (l : List (NestedKey × Addr × V)) (k : NestedKey) : Option V := (l.find? fun p => decide (p.1 = k)).map (·.2.2)
theorem NP.val {l : List (NestedKey × Addr × V)} {xs : List (NestedKey × Addr × Value)} (r : NP l xs) (k : NestedKey) : RelO (nAt l k) ((atKey xs k).map (·.2)) := by
  unfold NP at r
  induction r with
  | nil => exact True.intro
  | cons h t ih =>
    rename_i a b l1 l2
    by_cases e : a.1 = k
    · have e2 : b.1 = k := by rw [← h.1]; exact e
      simp only [nAt, atKey, List.find?_cons, e, e2, decide_true, Option.map_some]
      exact h.2.2
    · have e2 : ¬ b.1 = k := by rw [← h.1]; exact e
      simp only [nAt, atKey, List.find?_cons, e, e2, decide_false] at ih ⊢
      exact ih
def nPut (l : List (NestedKey × Addr × V)) (k : NestedKey) (b : Addr) (v : V) : List (NestedKey × Addr × V) :=
  if (nAt l k).isSome then l.map fun p => if p.1 = k then (p.1, p.2.1, v) else p else l ++ [(k, b, v)]
theorem NP.put {l : List (NestedKey × Addr × V)} {xs : List (NestedKey × Addr × Value)} (r : NP l xs) (k : NestedKey) (b : Addr) {v : V} {u : Value} (rv : RelV v u) : NP (nPut l k b v) (storedH xs k b u) := by
  have e := (r.val k).isSome_eq
  rw [Option.isSome_map] at e
  unfold nPut storedH
  rw [e]
  split
  · rename_i hh
    clear hh e
    unfold NP at r ⊢
    induction r with
    | nil => exact .nil
    | @cons p q ps qs h t ih =>
      refine .cons ?_ ih
      unfold putAt
      dsimp only
      by_cases z : p.1 = k
      · rw [if_pos z, if_pos (by rw [← h.1]; exact z)]
        exact ⟨h.1, h.2.1, rv⟩
      · rw [if_neg z, if_neg (by rw [← h.1]; exact z)]
        exact h
  · exact Paired.snoc r ⟨rfl, rfl, rv⟩
theorem nPut_len (l : List (NestedKey × Addr × V)) (k : NestedKey) (b : Addr) (v : V) : (nPut l k b v).length ≤ l.length + 1 := by
  unfold nPut
  split
  · rw [List.length_map]; omega
  · rw [List.length_append]; exact Nat.le_refl _
end
section
variable {X : Cx} {pins : List (Addr × Obj)} {σ : St} {H : Hp} {s : Shared} {a b : Addr} {l : List (NestedKey × Addr × V)} {k : NestedKey} {v d : V} {u r : Value} {A : Around} {E : Value → Shared → Prop}
theorem nroom {A : Around} {P : Program} {w : World} (hu : A.units + 60 < cLine) : (nestedKind P w).room A.in1 := by
  show A.in1.units + 8 < cLine
  have : A.in1.units = A.units + 1 := rfl
  omega
theorem nroom0 {A : Around} {P : Program} {w : World} (hu : A.units + 60 < cLine) : (nestedKind P w).room A := by
  show A.units + 8 < cLine
  omega
theorem nd_getItem {Q : Value → Shared → Prop} (hu : A.units + 60 < cLine) (I : Inv X pins σ H s) (e : H a = some (.ext (nDict a l))) (hk : NKeys X H l) (kk : NKey X H k b) (g : nAt l k = some v) (h : ∀ w' s', Inv X pins σ H s' → RelV v w' → Q w' s') :
    wpAny (model X.prog X.w) A (getItem (.ref a) (.ref b)) Q E s := by
  obtain ⟨z, hd, xs, rel, dd⟩ := nd_of I e hk
  obtain ⟨w', hw, rw'⟩ := RelO.some_of (v := v) (o := (atKey xs k).map (·.2)) (by rw [← g]; exact rel.val k)
  obtain ⟨p, hp, hp2⟩ := Option.map_eq_some_iff.mp hw
  obtain ⟨k1, k2, _⟩ := kk I
  refine wpAny_getItem_heap (knd := nestedKind X.prog X.w) (nroom hu) ⟨k1, k2⟩ dd hp ?_
  rw [hp2]
  exact h w' _ (I.tok _) rw'
theorem nd_notIn {Q : Value → Shared → Prop} (hu : A.units + 60 < cLine) (I : Inv X pins σ H s) (e : H a = some (.ext (nDict a l))) (hk : NKeys X H l) (kk : NKey X H k b) (h : ∀ s', Inv X pins σ H s' → Q (.bool (!(nAt l k).isSome)) s') :
    wpAny (model X.prog X.w) A (compareOp .NotIn (.ref b) (.ref a)) Q E s := by
  obtain ⟨z, hd, xs, rel, dd⟩ := nd_of I e hk
  obtain ⟨k1, k2, _⟩ := kk I
  refine PyProof.Rows.wpAny_notIn_heap (knd := nestedKind X.prog X.w) (nroom hu) ⟨k1, k2⟩ hd dd ?_
  have q := (rel.val k).isSome_eq
  rw [Option.isSome_map] at q
  rw [← q]
  exact h _ (I.tok _)
theorem mem_nPut {l : List (NestedKey × Addr × V)} {k : NestedKey} {b : Addr} {v : V} {p : NestedKey × Addr × V} (h : p ∈ nPut l k b v) : (∃ q ∈ l, q.1 = p.1 ∧ q.2.1 = p.2.1) ∨ (p.1 = k ∧ p.2.1 = b) := by
  unfold nPut at h
  split at h
  · obtain ⟨q, hq, e⟩ := List.mem_map.mp h
    refine .inl ⟨q, hq, ?_⟩
    split at e <;> (rw [← e]; exact ⟨rfl, rfl⟩)
  · rcases List.mem_append.mp h with h | h
    · exact .inl ⟨p, h, rfl, rfl⟩
    · rw [List.mem_singleton] at h
      subst h
      exact .inr ⟨rfl, rfl⟩
theorem nd_setItem {Q : Unit → Shared → Prop} (hu : A.units + 60 < cLine) (I : Inv X pins σ H s) (e : H a = some (.ext (nDict a l))) (hk : NKeys X H l) (kk : NKey X H k b) (hl : l.length < sizeLine) (rv : RelV v r) (h : ∀ s', Inv X pins σ (upd H a (.ext (nDict a (nPut l k b v)))) s' → Q () s') :
    wpAny (model X.prog X.w) A (setItem (.ref a) (.ref b) r) Q E s := by
  obtain ⟨z, hd, xs, rel, dd⟩ := nd_of I e hk
  obtain ⟨k1, k2, k3⟩ := kk I
  have hz : xs.length ≤ sizeLine := by rw [← Paired.length rel]; exact z
  have hp := nPut_len l k b v
  refine wpAny_setItem_heap (hsz := hz) (knd := nestedKind X.prog X.w) (nroom hu) ⟨k1, k2⟩ dd fun h' dd' hs => h _ ?_
  have he : ∃ q, h'.get? a = some q := let ⟨q, _, _, hq, _⟩ := dd'; ⟨q, hq⟩
  refine d_write I (by rw [e]; exact True.intro) hs he (nd_ok (by omega) hd (rel.put k b rv) dd' ?_)
  intro x hx
  obtain ⟨p, hp, e1, e2⟩ := NP.keys (rel.put k b rv) x hx
  rcases mem_nPut hp with ⟨q, hq, q1, q2⟩ | ⟨q1, q2⟩
  · obtain ⟨_, _, w⟩ := hk q hq I
    rw [← e1, ← q1]; exact w
  · rw [← e1, q1]; exact k3
theorem nd_type (I : Inv X pins σ H s) (e : H a = some (.ext (nDict a l))) : s.TypeIs (.ref a) "dict" ∧ (∀ b, Value.ref a = .ref b → ∃ ob, s.heap.get? b = some ob ∧ ob.dict = none) ∧ (a == sysModules) = false := by
  obtain ⟨⟨z, y, xs, r, o, es, ep, h1, h2, h3, h4, h5⟩, _, _⟩ := (show ObjOk X.prog X.w H s.heap a (.ext (nDict a l)) from I.hok a _ e)
  refine ⟨⟨o, h1, h2.1⟩, fun b q => ?_, y⟩
  cases q
  exact ⟨o, h1, h2.2.1⟩
theorem nd_get2 {Q : Value → Shared → Prop} (hu : A.units + 60 < cLine) (I : Inv X pins σ H s) (e : H a = some (.ext (nDict a l))) (hk : NKeys X H l) (kk : NKey X H k b) (rd : RelV d r) (h : ∀ w' s', Inv X pins σ H s' → RelV ((nAt l k).getD d) w' → Q w' s') :
    wpAny (model X.prog X.w) A (call (.builtin "dict.get") [.ref a, .ref b, r]) Q E s := by
  obtain ⟨z, hd, xs, rel, dd⟩ := nd_of I e hk
  obtain ⟨k1, k2, _⟩ := kk I
  refine call_meetsIn PySem.F.slot_dict_get dd.typeIs PySem.F.entry_dict_get (PySem.F.args_dict_get_3 _ _ _) (meetsH_dict_get_default (nestedKind X.prog X.w) a b hd r) ⟨nroom hu, k, xs, ⟨k1, k2⟩, dd, h _ _ (I.tok _) ?_⟩
  exact (rel.val k).getD rd
end
def NGet (X : Cx) (H : Hp) (x y : V) (l : List (NestedKey × Addr × V)) (k : NestedKey) : Prop := ∃ a b, x = .ref a ∧ y = .ref b ∧ H a = some (.ext (nDict a l)) ∧ NKeys X H l ∧ NKey X H k b
def tNGet (X : Cx) (td ty : TE) : TE := fun σ H Q => td σ H fun x H1 => ty σ H1 fun y H2 => ∃ l k v, NGet X H2 x y l k ∧ nAt l k = some v ∧ Q v H2
def tNNotIn (X : Cx) (ty td : TE) : TE := fun σ H Q => ty σ H fun y H1 => td σ H1 fun x H2 => ∃ l k, NGet X H2 x y l k ∧ Q (.bl (!(nAt l k).isSome)) H2
def sNPut (X : Cx) (td ty tv : TE) : TS := fun D σ H => tv σ H fun v H1 => td σ H1 fun x H2 => ty σ H2 fun y H3 => ∃ a b l k, x = .ref a ∧ y = .ref b ∧ H3 a = some (.ext (nDict a l)) ∧ NKeys X H3 l ∧ NKey X H3 k b ∧ l.length < sizeLine ∧ D.nx σ (upd H3 a (.ext (nDict a (nPut l k b v))))
def IsN (H : Hp) (x : V) : Prop := ∃ a l, x = .ref a ∧ H a = some (.ext (nDict a l))
def tNGet2 (X : Cx) (td ty tx : TE) : TE := fun σ H Q => td σ H fun x H1 => IsN H1 x ∧ ty σ H1 fun y H2 => tx σ H2 fun z H3 => ∃ l k, NGet X H3 x y l k ∧ Q ((nAt l k).getD z) H3
section
variable {X : Cx} {o i e f value : Expr} {pos pos' apos cpos : Pos} {td ty tv tx : TE}
theorem pe_nget (hu : X.A.units + 60 < cLine) (ho : PE X o td) (hi : PE X i ty) (hs : NoSl i) : PE X (.Subscript o i pos) (tNGet X td ty) := by
  refine ⟨fun pins s σ H Q I h => ?_⟩
  refine subD_of PySem.F.slot_dict_getitem.lookup hs (thn (ho.run pins s σ H _ I h) fun u s1 ⟨x, H1, I1, rx, q1⟩ => thn (hi.run pins s1 σ H1 _ I1 q1) fun iv s2 ⟨y, H2, I2, ry, l, k, v, ⟨a, b, ex, ey, e, hk, kk⟩, g, q2⟩ => ?_)
  subst ex ey
  obtain rfl : u = Value.ref a := rx
  obtain rfl : iv = Value.ref b := ry
  exact ⟨(nd_type I2 e).1, nd_getItem hu I2 e hk kk g fun w' s3 I3 rw' => ⟨v, H2, I3, rw', q2⟩⟩
theorem pc_nnotin (hu : X.A.units + 60 < cLine) (hi : PE X i ty) (ho : PE X o td) : PC X .NotIn i o (tNNotIn X ty td) := by
  refine ⟨fun pins s σ H Q I h => ?_⟩
  refine thn (hi.run pins s σ H _ I h) fun iv s1 ⟨y, H1, I1, ry, q1⟩ => thn (ho.run pins s1 σ H1 _ I1 q1) fun u s2 ⟨x, H2, I2, rx, l, k, ⟨a, b, ex, ey, e, hk, kk⟩, q2⟩ => ?_
  subst ex ey
  obtain rfl : u = Value.ref a := rx
  obtain rfl : iv = Value.ref b := ry
  exact nd_notIn hu I2 e hk kk fun s3 I3 => ⟨.bl (!(nAt l k).isSome), H2, I3, rfl, q2⟩
theorem ps_nput (hu : X.A.units + 60 < cLine) (ho : PE X o td) (hi : PE X i ty) (hv : PE X value tv) (hs : swapsWith value (some (.Subscript o i pos')) pos.line X.env = pure false) :
    PS X (.Assign [.Subscript o i pos'] value pos) (sNPut X td ty tv) := by
  refine ⟨fun pins s σ H D I h => ?_⟩
  refine wpAny_Assign_Subscript (thn (hv.run pins s σ H _ I h) fun r s1 ⟨v, H1, I1, rv, q1⟩ => thn (ho.run pins s1 σ H1 _ I1 q1) fun u s2 ⟨x, H2, I2, rx, q2⟩ => thn (hi.run pins s2 σ H2 _ I2 q2) fun iv s3 ⟨y, H3, I3, ry, a, b, l, k, ex, ey, e, hk, kk, hl, q3⟩ => ?_) hs
  subst ex ey
  obtain rfl : u = Value.ref a := rx
  obtain rfl : iv = Value.ref b := ry
  exact nd_setItem hu I3 e hk kk hl rv fun s4 I4 => ⟨σ, _, I4, q3⟩
theorem pe_nget2 (hu : X.A.units + 60 < cLine) (ho : PE X o td) (he : PE X e ty) (hf : PE X f tx) (m : M2 X o "get" apos e f cpos) : PE X (.Call (.Attribute o "get" apos) [e, f] [] cpos) (tNGet2 X td ty tx) := by
  refine ⟨fun pins s σ H Q I h => ?_⟩
  refine wpAny_Call_method m.base m.few m.line PySem.F.plainAttrs_dict PySem.F.slot_dict_get PySem.F.type_dict_get (thn (ho.run pins s σ H _ I h) fun u s1 ⟨x, H1, I1, rx, ⟨a, l0, ex, e0⟩, q1⟩ => ?_)
  subst ex
  obtain rfl : u = Value.ref a := rx
  obtain ⟨t1, t2, _⟩ := nd_type I1 e0
  refine ⟨t1, t2, ?_⟩
  rw [m.trees]
  refine Calls.callWith_builtin rfl (Calls.evalArgs_plain (Calls.spliced_cons (thn (he.run pins s1 σ H1 _ I1 q1) fun iv s2 ⟨y, H2, I2, ry, q2⟩ =>
    Calls.spliced_cons (thn (hf.run pins s2 σ H2 _ I2 q2) fun fv s3 ⟨z, H3, I3, rz, l, k, ⟨a', b, ex, ey, e, hk, kk⟩, q3⟩ => Calls.spliced_nil ?_))))
  cases ex
  subst ey
  obtain rfl : iv = Value.ref b := ry
  exact nd_get2 hu I3 e hk kk rz fun w' s4 I4 rw' => ⟨_, H3, I4, rw', q3⟩
end
theorem nd_empty {X : Cx} {H : Hp} (h : Heap) (hb : sysModules < h.objs.size) : ObjOk X.prog X.w H (h.push { cls := .type "dict", data := .dict #[] }) h.objs.size (.ext (nDict h.objs.size [])) :=
  nd_ok (X := X) (Nat.zero_le _) (beq_eq_false_iff_ne.mpr (Ne.symm (Nat.ne_of_lt hb))) .nil (Heap.DictOfH.new h) (fun x hx => nomatch hx)
def tNNew : TE := fun _ H Q => ∀ p, H p = none → Q (.ref p) (upd H p (.ext (nDict p [])))
theorem pe_nnew {X : Cx} {pos : Pos} : PE X (.Dict [] [] pos) tNNew := ⟨fun pins s σ H Q I h =>
  wpAny_Dict_empty ⟨.ref s.heap.objs.size, _, I.laid (a := s.heap.objs.size) (o := .ext (nDict s.heap.objs.size [])) (t' := s.toks) (fun _ _ q => Heap.get?_push_of_some _ q) (Nat.le_refl _) (nd_empty (X := X) s.heap I.big), rfl, h _ (I.hok.fresh (Nat.le_refl _))⟩⟩
def nd1 (p : Addr) (X : Cx) (Q : VK) : List (V × V) → Hp → Prop := fun ps H2 => match ps with
  | [(y, v)] => H2 p = some (.ext (nDict p [])) ∧ ∃ k b, y = .ref b ∧ NKey X H2 k b ∧ Q (.ref p) (upd H2 p (.ext (nDict p (nPut [] k b v))))
  | _ => False
def tNDisp1 (X : Cx) (tk tv : TE) : TE := fun σ H Q => ∀ p, H p = none → tk σ (upd H p (.ext (nDict p []))) fun y H1 => tv σ H1 fun v H2 => nd1 p X Q [(y, v)] H2
theorem pe_ndisp1 {X : Cx} {pos : Pos} {k v : Expr} {tk tv : TE} (hu : X.A.units + 60 < cLine) (hk : PE X k tk) (hv : PE X v tv) : PE X (.Dict [some k] [v] pos) (tNDisp1 X tk tv) := by
  refine ⟨fun pins s σ H Q I q => ?_⟩
  have hn := I.hok.fresh (Nat.le_refl s.heap.objs.size)
  have I1 := I.laid (a := s.heap.objs.size) (o := .ext (nDict s.heap.objs.size [])) (h' := s.heap.push { cls := .type "dict", data := .dict #[] }) (t' := s.toks) (fun _ _ q => Heap.get?_push_of_some _ q) (Nat.le_refl _) (nd_empty (X := X) s.heap I.big)
  have pp : PPs X pos [some k] [v] [(tk, tv)] := pps_cons hk hv pps_nil
  refine wpAny_Dict_any rfl rfl (by intro z; cases z) (Nat.le_add_left 1 14) (thn (pp.run pins _ σ _ (nd1 s.heap.objs.size X Q) I1 (q _ hn)) fun ws s2 ⟨ps, H2, I2, rel, q2⟩ => ?_)
  unfold nd1 at q2
  split at q2
  · rename_i y w
    obtain ⟨e, kk, b, rfl, nk, q2⟩ := q2
    cases rel with
    | @cons _ u _ _ r t =>
      cases t
      obtain ⟨u1, u2⟩ := u
      obtain rfl : u1 = Value.ref b := r.1
      unfold storeAll
      rw [List.forIn_cons]
      have nks : NKeys X H2 [] := fun p hp => nomatch hp
      obtain ⟨z, hd, xs, rel, dd⟩ := nd_of I2 e nks
      obtain ⟨k1, k2, k3⟩ := nk I2
      have hz : xs.length ≤ sizeLine := by rw [← Paired.length rel]; exact z
      have hz2 : (nPut [] kk b w).length ≤ sizeLine := Nat.le_trans (nPut_len [] kk b w) (show 1 ≤ sizeLine from by decide)
      refine wpAny_bind (wpAny_bind (wpAny_dictSet_heap (hsz := hz) (knd := nestedKind X.prog X.w) (nroom0 hu) ⟨k1, k2⟩ dd fun h' dd' hs => wpAny_pure ?_))
      dsimp only
      rw [List.forIn_nil]
      refine wpAny_pure ⟨.ref s.heap.objs.size, _, ?_, rfl, q2⟩
      have he : ∃ q, h'.get? s.heap.objs.size = some q := let ⟨q, _, _, hq, _⟩ := dd'; ⟨q, hq⟩
      refine d_write I2 (by rw [e]; exact True.intro) hs he (nd_ok hz2 hd (rel.put kk b r.2) dd' ?_)
      intro x hx
      obtain ⟨p, hp, e1, e2⟩ := NP.keys (rel.put kk b r.2) x hx
      rcases mem_nPut hp with ⟨q, hq, q1, q2⟩ | ⟨q1, q2⟩
      · cases hq
      · rw [← e1, q1]; exact k3
  · exact q2.elim
end Tm
set_option Elab.async false
set_option linter.all false
set_option maxRecDepth 100000
set_option maxHeartbeats 2000000
namespace Tm
open PySem L2
open Evl (Ex ex_rd ex_l ex_t)
theorem OV.dot {K : PySem.W.Frag} {Hk H : Hp} {ks xs : List MV} {v : V} {A : List Addr} : OV K Hk H (.dot ks xs) v A ↔ ∃ p l, v = .ref p ∧ A = [p] ∧ H p = some (.ext (nDict p l)) ∧ KN K Hk ks xs l := by
  unfold OV OF; rfl
def nkK : MV → Option NestedKey
  | .tup xs => match nkI (.tup xs) with | some k => if k.depth ≤ 8 then some k else none | none => none
  | _ => none
theorem nkK_ref {K : PySem.W.Frag} {Hk : Hp} {y : MV} {k : NestedKey} {v : V} (h : nkK y = some k) (r : RV K Hk y v) : ∃ b, v = .ref b ∧ nkI y = some k ∧ k.depth ≤ 8 ∧ RV K Hk y (.ref b) := by
  unfold nkK at h
  split at h
  · rename_i xs
    split at h
    · rename_i k' e
      split at h
      · rename_i hd
        cases h
        obtain ⟨a, vs, rfl, _⟩ := RV.tup.mp r
        exact ⟨a, rfl, e, hd, r⟩
      · cases h
    · cases h
  · cases h
def ndAt (ks xs : List MV) (k : NestedKey) : Option MV := ((ks.zip xs).find? fun p => decide (nkI p.1 = some k)).map (·.2)
def ndPut (ks xs : List MV) (y : MV) (k : NestedKey) (z : MV) : List MV × List MV :=
  if (ndAt ks xs k).isSome then (ks, (ks.zip xs).map fun p => if nkI p.1 = some k then z else p.2) else (ks ++ [y], xs ++ [z])
section
variable {K : PySem.W.Frag} {F Hk H : Hp} {bp : List (Nat × Addr)} {σ : L2.St} {ρ : Env}
theorem KN.len : ∀ {ks xs : List MV} {l : List (NestedKey × Addr × V)}, KN K Hk ks xs l → l.length = ks.length ∧ ks.length = xs.length
  | [], [], _, h => by cases h; exact ⟨rfl, rfl⟩
  | [], _ :: _, _, h => h.elim
  | _ :: _, [], _, h => h.elim
  | k :: ks, x :: xs, _, h => by
    obtain ⟨nk, a, v, r, rfl, h2, h3, h4, h5, h6⟩ := h
    have := KN.len h6
    simp [this.1, this.2]
theorem KN.at (k : NestedKey) : ∀ {ks xs : List MV} {l : List (NestedKey × Addr × V)}, KN K Hk ks xs l → (ndAt ks xs k = none → nAt l k = none) ∧ ∀ z, ndAt ks xs k = some z → ∃ v, nAt l k = some v ∧ RV K Hk z v
  | [], [], _, h => by cases h; exact ⟨(fun _ => rfl), (fun z e => nomatch e)⟩
  | [], _ :: _, _, h => h.elim
  | _ :: _, [], _, h => h.elim
  | j :: ks, x :: xs, _, h => by
    obtain ⟨nk, a, v, r, rfl, h2, h3, h4, h5, h6⟩ := h
    obtain ⟨i1, i2⟩ := KN.at k h6
    by_cases e : nk = k
    · subst e
      have e1 : ndAt (j :: ks) (x :: xs) nk = some x := by simp [ndAt, h2]
      have e2 : nAt ((nk, a, v) :: r) nk = some v := by simp [nAt]
      rw [e1, e2]
      exact ⟨(fun z => nomatch z), (fun z q => by cases q; exact ⟨v, rfl, h5⟩)⟩
    · have e1 : ndAt (j :: ks) (x :: xs) k = ndAt ks xs k := by
        have : ¬ some nk = some k := fun z => e (Option.some.inj z)
        simp [ndAt, h2, e]
      have e2 : nAt ((nk, a, v) :: r) k = nAt r k := by simp [nAt, e]
      rw [e1, e2]
      exact ⟨i1, i2⟩
theorem KN.snoc {y z : MV} {nk : NestedKey} {b : Addr} {v : V} (h2 : nkI y = some nk) (h3 : nk.depth ≤ 8) (h4 : RV K Hk y (.ref b)) (h5 : RV K Hk z v) : ∀ {ks xs : List MV} {l : List (NestedKey × Addr × V)}, KN K Hk ks xs l → KN K Hk (ks ++ [y]) (xs ++ [z]) (l ++ [(nk, b, v)])
  | [], [], _, h => by cases h; exact ⟨nk, b, v, [], rfl, h2, h3, h4, h5, rfl⟩
  | [], _ :: _, _, h => h.elim
  | _ :: _, [], _, h => h.elim
  | j :: ks, x :: xs, _, h => by
    obtain ⟨nk', a, v', r, rfl, g2, g3, g4, g5, g6⟩ := h
    exact ⟨nk', a, v', r ++ [(nk, b, v)], rfl, g2, g3, g4, g5, KN.snoc h2 h3 h4 h5 g6⟩
theorem KN.repl {z : MV} {k : NestedKey} {v : V} (h5 : RV K Hk z v) : ∀ {ks xs : List MV} {l : List (NestedKey × Addr × V)}, KN K Hk ks xs l → KN K Hk ks ((ks.zip xs).map fun p => if nkI p.1 = some k then z else p.2) (l.map fun p => if p.1 = k then (p.1, p.2.1, v) else p)
  | [], [], _, h => by cases h; rfl
  | [], _ :: _, _, h => h.elim
  | _ :: _, [], _, h => h.elim
  | j :: ks, x :: xs, _, h => by
    obtain ⟨nk, a, v', r, rfl, g2, g3, g4, g5, g6⟩ := h
    by_cases e : nk = k
    · subst e
      refine ⟨nk, a, v, _, ?_, g2, g3, g4, ?_, KN.repl h5 g6⟩
      · simp
      · simp [g2, h5]
    · have ne : ¬ some nk = some k := fun z => e (Option.some.inj z)
      refine ⟨nk, a, v', _, ?_, g2, g3, g4, ?_, KN.repl h5 g6⟩
      · simp [e]
      · simp only [g2, if_neg ne]
        exact g5
theorem KN.put {ks xs : List MV} {l : List (NestedKey × Addr × V)} (h : KN K Hk ks xs l) {y z : MV} {k : NestedKey} {b : Addr} {v : V} (h2 : nkI y = some k) (h3 : k.depth ≤ 8) (h4 : RV K Hk y (.ref b)) (h5 : RV K Hk z v) :
    KN K Hk (ndPut ks xs y k z).1 (ndPut ks xs y k z).2 (nPut l k b v) := by
  obtain ⟨i1, i2⟩ := KN.at k h
  unfold ndPut nPut
  cases e : ndAt ks xs k with
  | none =>
    rw [i1 e]
    exact KN.snoc h2 h3 h4 h5 h
  | some w =>
    obtain ⟨u, e1, _⟩ := i2 w e
    rw [e1]
    exact KN.repl h5 h
theorem RS.changeN (S : RS K F Hk H bp σ ρ) {i : Nat} {ks xs : List MV} (h : ρ[i]? = some (some (.dot ks xs))) :
    ∃ p l, σ[i]? = some (some (.ref p)) ∧ H p = some (.ext (nDict p l)) ∧ KN K Hk ks xs l ∧ ∀ js ys l', KN K Hk js ys l' → RS K F Hk (upd H p (.ext (nDict p l'))) bp σ (ρ.set i (some (.dot js ys))) := by
  obtain ⟨ow, s⟩ := S.ow
  obtain ⟨v, ev, o⟩ := s.s i _ h
  obtain ⟨p, l, e1, e2, e3, e4⟩ := OV.dot.mp o
  have m : p ∈ ow i := by rw [e2]; simp
  obtain ⟨f1, f2, _⟩ := s.f i p m
  refine ⟨p, l, by rw [ev, e1], e3, e4, fun js ys l' r => ⟨by simp [S.len], S.ex.mut f1, S.fr.mut f2, S.frk, ⟨ow, ?_⟩, S.bor⟩⟩
  refine ⟨fun j y hj => ?_, fun j a hj => ?_, fun j hj => by rw [List.length_set]; exact s.w j hj, s.d⟩
  · rcases set_get hj with ⟨rfl, e⟩ | ⟨ne, e⟩
    · cases e
      exact ⟨v, ev, OV.dot.mpr ⟨p, l', e1, e2, upd_same, r⟩⟩
    · obtain ⟨u, u1, u2⟩ := s.s j y e
      exact ⟨u, u1, u2.move (Ex.refl _) fun a ha o ho => by rw [upd_ne (fun z => s.d j i a ne ha (by rw [z]; exact m))]; exact ho⟩
  · obtain ⟨g1, g2, o, g3⟩ := s.f j a hj
    by_cases e : a = p
    · subst e; exact ⟨g1, g2, _, upd_same⟩
    · exact ⟨g1, g2, o, by rw [upd_ne e]; exact g3⟩
theorem RS.landN {p : Addr} {o : HO} (S : RS K (upd F p o) Hk H bp σ ρ) (hF : F p = none) {ks xs : List MV} {l : List (NestedKey × Addr × V)} (r : KN K Hk ks xs l) :
    RS K F Hk (upd H p (.ext (nDict p l))) bp (σ ++ [some (.ref p)]) (ρ ++ [some (.dot ks xs)]) := by
  have ne : ∀ a u, F a = some u → a ≠ p := fun a u q z => by subst z; rw [hF] at q; cases q
  have hk : Hk p = none := S.frk p o upd_same
  have S2 := S.unframe hF
  obtain ⟨ow0, s0⟩ := S.ow
  have np : ∀ i a, a ∈ ow0 i → a ≠ p := fun i a ha z => by
    have := (s0.f i a ha).2.1
    subst z
    rw [upd_same] at this; cases this
  have s1 : SL K F Hk H ow0 σ ρ := by
    refine ⟨s0.s, fun i a q => ⟨(s0.f i a q).1, ?_, (s0.f i a q).2.2⟩, s0.w, s0.d⟩
    have z := (s0.f i a q).2.1
    rw [upd_ne (np i a q)] at z; exact z
  have s2 : SL K F Hk (upd H p (.ext (nDict p l))) ow0 σ ρ := s1.step (Ex.refl _) fun i a ha => ⟨upd_ne (np i a ha), (s1.f i a ha).1⟩
  refine ⟨by simp [S.len], S.ex.mut hk, fun a u q => ?_, S2.frk, ⟨_, s2.push S.len (A := [p]) (OV.dot.mpr ⟨p, l, rfl, rfl, upd_same, r⟩) (fun a ha => ?_) (fun i a ha => ?_)⟩, S.bor_app _⟩
  · rw [upd_ne (ne a u q)]; exact S2.fr a u q
  · simp at ha; subst ha; exact ⟨hk, hF⟩
  · simp at ha; subst ha; exact fun z => np i a z rfl
end
def isDot (ρ : Env) (i : Nat) : Bool := match ρ[i]? with | some (some (.dot _ _)) => true | _ => false
theorem isDot_get {ρ : Env} {i : Nat} (h : isDot ρ i = true) : ∃ ks xs, ρ[i]? = some (some (.dot ks xs)) := by
  unfold isDot at h
  split at h
  · rename_i ks xs e; exact ⟨ks, xs, e⟩
  · cases h
section
variable {X : Cx} {c : Ct} {p pos pos' apos cpos : Pos} {e ee : Expr} {a b d : ME} {m : MA} {x : Str} {i : Nat}
def mSetN (i : Nat) (a b : ME) : MS := fun ρ => (a ρ).bind fun z ρ1 => if has ρ1 i then (b ρ1).bind fun y ρ2 => match ρ2[i]?, nkK y with
  | some (some (.dot ks xs)), some k => if ks.length ≤ 10000 then .ok (.nx, ρ2.set i (some (.dot (ndPut ks xs y k z).1 (ndPut ks xs y k z).2))) else .stuck
  | _, _ => .stuck else .stuck
theorem rd_setN (hK : c.K = X.K) {D : Ends} {σ : St} {H : Hp} (h : rdS c (mSetN i a b) D σ H) : sNPut X (tVar i) (rdE c b) (rdE c a) D σ H := by
  obtain ⟨F, Hk, bp, ρ, S, h⟩ := h
  refine rdw (bE (postS (σ := σ)) S h) fun v H1 ⟨Hk1, z, ρ1, x1, S1, r1, h1⟩ => ?_
  split at h1
  · rename_i hh
    obtain ⟨w, ew⟩ := has_rs S1 hh
    refine ⟨w, ew, ?_⟩
    refine rdw (bE (postS (σ := σ)) S1 h1) fun y' H2 ⟨Hk2, y, ρ2, x2, S2, r2, h2⟩ => ?_
    split at h2
    · rename_i ks xs k hx ek
      split at h2
      · rename_i hn
        obtain ⟨bb, rfl, k1, k2, k3⟩ := nkK_ref ek r2
        obtain ⟨q, l, g0, g1, g2, g3⟩ := S2.1.changeN hx
        rw [ew] at g0
        cases g0
        have hl := (KN.len g2).1
        refine ⟨q, bb, l, k, rfl, rfl, g1, KN.keys S2.1.ex (hK ▸ g2), NKey.of S2.1.ex k1 k2 (hK ▸ k3), ?_, ?_⟩
        · have : (10000 : Nat) < sizeLine := by decide
          omega
        · exact h2 _ _ _ (Ex.refl _) (g3 _ _ _ (KN.put g2 k1 k2 k3 (RV.mono x2 _ _ r1)))
      · exact h2.elim
    · exact h2.elim
  · exact h1.elim
theorem ms_setN (hr : X.A.units + 64 < cLine) (hN : X.N[i]? = some x) (hv : Vis X.env.scope x) (he : PE X e (rdE c a)) (hb : PE X ee (rdE c b)) (hK : c.K = X.K := by rfl) (hs : swapsWith e (some (.Subscript (.Name x p) ee apos)) pos.line X.env = pure false := by rfl)
    (hd : (x == ("__debug__" : Str)) = false := by decide) (hcd : (x == ("__classdict__" : Str)) = false := by decide) : PS X (.Assign [.Subscript (.Name x p) ee apos] e pos) (rdS c (mSetN i a b)) :=
  PSw (ps_nput (by omega) (pe_var hN hv hd hcd) hb he hs) fun _ _ _ h => rd_setN hK h
def mIxN (i : Nat) (b : ME) : ME := fun ρ => if has ρ i then (b ρ).bind fun y ρ1 => match ρ1[i]?, nkK y with
  | some (some (.dot ks xs)), some k => (match ndAt ks xs k with | some z => .ok (z, ρ1) | none => .stuck)
  | _, _ => .stuck else .stuck
theorem rd_ixN (hK : c.K = X.K) {σ : St} {H : Hp} {Q : VK} (h : rdE c (mIxN i b) σ H Q) : tNGet X (tVar i) (rdE c b) σ H Q := by
  obtain ⟨F, Hk, bp, ρ, S, h⟩ := h
  unfold mIxN at h
  split at h
  · rename_i hh
    obtain ⟨w, ew⟩ := has_rs S hh
    refine ⟨w, ew, ?_⟩
    refine rdw (bE postE S h) fun y' H2 ⟨Hk2, y, ρ2, x2, S2, r2, h2⟩ => ?_
    split at h2
    · rename_i ks xs k hx ek
      split at h2
      · rename_i z ez
        obtain ⟨bb, rfl, k1, k2, k3⟩ := nkK_ref ek r2
        obtain ⟨q, l, g0, g1, g2, g3⟩ := S2.1.changeN hx
        rw [ew] at g0
        cases g0
        obtain ⟨u, e1, e2⟩ := (KN.at k g2).2 z ez
        exact ⟨l, k, u, ⟨q, bb, rfl, rfl, g1, KN.keys S2.1.ex (hK ▸ g2), NKey.of S2.1.ex k1 k2 (hK ▸ k3)⟩, e1, h2 _ _ _ (Ex.refl _) S2.1 e2⟩
      · exact h2.elim
    · exact h2.elim
  · exact h.elim
theorem me_ixN (hr : X.A.units + 64 < cLine) (hN : X.N[i]? = some x) (hv : Vis X.env.scope x) (hb : PE X ee (rdE c b)) (hK : c.K = X.K := by rfl) (hs : NoSl ee := by exact fun _ _ => rfl)
    (hd : (x == ("__debug__" : Str)) = false := by decide) (hcd : (x == ("__classdict__" : Str)) = false := by decide) : PE X (.Subscript (.Name x p) ee pos) (rdE c (mIxN i b)) :=
  PEw (pe_nget (by omega) (pe_var hN hv hd hcd) hb hs) fun _ _ _ h => rd_ixN hK h
def mInN (n : Bool) (b : ME) (i : Nat) : ME := fun ρ => (b ρ).bind fun y ρ1 => if has ρ1 i then (match ρ1[i]?, nkK y with
  | some (some (.dot ks xs)), some k => .ok (.bl (n != (ndAt ks xs k).isSome), ρ1)
  | _, _ => .stuck) else .stuck
theorem rd_ninN (hK : c.K = X.K) {σ : St} {H : Hp} {Q : VK} (h : rdE c (mInN true b i) σ H Q) : tNNotIn X (rdE c b) (tVar i) σ H Q := by
  obtain ⟨F, Hk, bp, ρ, S, h⟩ := h
  refine rdw (bE postE S h) fun y' H2 ⟨Hk2, y, ρ2, x2, S2, r2, h2⟩ => ?_
  split at h2
  · rename_i hh
    obtain ⟨w, ew⟩ := has_rs S2 hh
    refine ⟨w, ew, ?_⟩
    split at h2
    · rename_i ks xs k hx ek
      obtain ⟨bb, rfl, k1, k2, k3⟩ := nkK_ref ek r2
      obtain ⟨q, l, g0, g1, g2, g3⟩ := S2.1.changeN hx
      rw [ew] at g0
      cases g0
      refine ⟨l, k, ⟨q, bb, rfl, rfl, g1, KN.keys S2.1.ex (hK ▸ g2), NKey.of S2.1.ex k1 k2 (hK ▸ k3)⟩, h2 _ _ _ (Ex.refl _) S2.1 ?_⟩
      cases ea : ndAt ks xs k with
      | none => rw [(KN.at k g2).1 ea]; exact RV.bl.mpr rfl
      | some z => obtain ⟨u, e1, e2⟩ := (KN.at k g2).2 z ea; rw [e1]; exact RV.bl.mpr rfl
    · exact h2.elim
  · exact h2.elim
end
end Tm
set_option Elab.async false
set_option linter.all false
set_option maxRecDepth 100000
set_option maxHeartbeats 2000000
namespace Tm
open PySem L2
open Evl (Ex ex_rd ex_l ex_t)
theorem NP.addrs {l : List (NestedKey × Addr × V)} {xs : List (NestedKey × Addr × Value)} (r : NP l xs) : xs.map (fun x => x.2.1) = l.map fun x => x.2.1 := by
  unfold NP at r
  induction r with
  | nil => rfl
  | @cons p q ps qs h t ih => rw [List.map_cons, List.map_cons, ih, h.2.1]
theorem call_list_nd {X : Cx} (hc : X.calm = true) : CallR X (.type "list") (fun xs H Q => ∃ d l, xs = [V.ref d] ∧ H d = some (.ext (nDict d l)) ∧ NKeys X H l ∧ ∀ p, H p = none → Q (.ref p) (upd H p (.lst (l.map fun e => V.ref e.2.1)))) := by
  intro pins s σ H xs us Q I r h
  obtain ⟨d, l, rfl, hd, hk, q⟩ := h
  obtain ⟨u, rfl, rx⟩ := r.one
  cases rx
  obtain ⟨⟨z, hs, ks, pr, o, es, ep, ho, hx, hdt, he, hn⟩, _, _⟩ := (show ObjOk X.prog X.w H s.heap d (.ext (nDict d l)) from I.hok d _ hd)
  have l0 : es.toList.length = ks.length := by rw [he, List.length_map]
  have l1 : es.size = ks.length := by rw [← l0, Array.length_toList]
  have l2 : l.length = ks.length := Paired.length pr
  refine PySem.W.kdl_call (kdl_raw hs hx hdt) (I.ok.hd hc) ho (by omega) fun h' tk acc' c' kp e it => ?_
  have ea : acc'.toList = ks.map fun x => Value.ref x.2.1 := by
    have hl : acc'.toList.length = ks.length := by rw [Array.length_toList, it.1]; exact l1
    apply List.ext_getElem?
    intro j
    rw [List.getElem?_map]
    cases hj : acc'.toList[j]? with
    | none =>
      have h1 := List.getElem?_eq_none_iff.mp hj
      rw [List.getElem?_eq_none (by omega)]
      all_goals rfl
    | some v =>
      obtain ⟨en, hen, hv⟩ := it.2 j v (by rw [← Array.getElem?_toList]; exact hj)
      rw [← Array.getElem?_toList, he, List.getElem?_map] at hen
      cases hb : ks[j]? with
      | none =>
        rw [hb] at hen
        exact nomatch hen
      | some b =>
        rw [hb] at hen
        have e2 : en = nEntry b := (Option.some.inj hen).symm
        rw [hv, e2]
        all_goals rfl
  have kk : ks.map (fun x => x.2.1) = l.map fun x => x.2.1 := NP.addrs pr
  have eb : acc'.toList = (l.map fun x => x.2.1).map Value.ref := by rw [ea, ← kk, List.map_map]; all_goals rfl
  have rv : Vals ((l.map fun x => x.2.1).map V.ref) acc'.toList := by rw [eb]; exact L2.vals_refs _
  have hz : ((l.map fun x => x.2.1).map V.ref).length ≤ sizeLine := by rw [List.length_map, List.length_map]; omega
  have em : (l.map fun e => V.ref e.2.1) = (l.map fun x => x.2.1).map V.ref := by rw [List.map_map]; rfl
  rw [em] at q
  refine ⟨.ref s.heap.objs.size, _, I.laid (t' := tk) (o := .lst ((l.map fun x => x.2.1).map V.ref)) kp (Nat.le_refl _) ?_, rfl, q _ (I.hok.fresh (Nat.le_refl _))⟩
  exact ⟨hz, acc'.toList, c', rv, by rw [Array.toArray_toList]; exact e⟩
theorem KN.refs {K : PySem.W.Frag} {Hk : Hp} : ∀ {ks xs : List MV} {l : List (NestedKey × Addr × V)}, KN K Hk ks xs l → RVs K Hk ks (l.map fun e => V.ref e.2.1)
  | [], [], _, h => by cases h; exact RVs.nil.mpr rfl
  | [], _ :: _, _, h => h.elim
  | _ :: _, [], _, h => h.elim
  | k :: ks, x :: xs, _, h => by
    obtain ⟨nk, a, v, r, rfl, h2, h3, h4, h5, h6⟩ := h
    exact RVs.cons.mpr ⟨_, _, rfl, h4, KN.refs h6⟩
section
variable {X : Cx} {c : Ct} {p p2 pos apos cpos : Pos} {e ee ek ev : Expr} {a b d : ME} {x : Str} {i : Nat}
def mDn0 : ME := fun ρ => .ok (.dot [] [], ρ)
theorem mo_dn0 : PE X (.Dict [] [] pos) (rdO c mDn0) :=
  PEw pe_nnew fun σ H Q h => by
    obtain ⟨F, Hk, bp, ρ, S, h⟩ := h
    intro p hp
    have hF : F p = none := S.1.fr.back hp
    have S1 := S.1.frame (.ext (nDict p [])) hp
    have S2 := S1.landN hF (ks := []) (xs := []) (l := []) rfl
    have e : upd (upd H p (.ext (nDict p []))) p (.ext (nDict p [])) = upd H p (.ext (nDict p [])) := upd_upd
    rw [e] at S2
    exact h _ _ _ (Ex.refl _) S2
def mDn1 (a b : ME) : ME := fun ρ => (a ρ).bind fun y ρ1 => (b ρ1).bind fun z ρ2 => match nkK y with | some _ => .ok (.dot [y] [z], ρ2) | none => .stuck
theorem mo_dn1 (hr : X.A.units + 64 < cLine) (ha : PE X ek (rdE c a)) (hb : PE X ev (rdE c b)) (hK : c.K = X.K := by rfl) : PE X (.Dict [some ek] [ev] pos) (rdO c (mDn1 a b)) := by
  refine PEw (pe_ndisp1 (by omega) ha hb) fun σ H Q h => ?_
  obtain ⟨F, Hk, bp, ρ, S, h⟩ := h
  intro p hp
  have hF : F p = none := S.1.fr.back hp
  have S1 : At c (upd F p (.ext (nDict p []))) Hk (upd H p (.ext (nDict p []))) bp σ ρ := ⟨S.1.frame _ hp, S.2.1, c.Jm _ _ _ (Ex.new hF) S.2.2⟩
  unfold mDn1 at h
  cases ea : a ρ with
  | stuck => rw [ea] at h; exact h.elim
  | exc e ρ1 =>
    rw [ea] at h
    refine ⟨_, _, _, _, S1, ?_⟩
    rw [ea]
    exact fun Hk' H' cls d x S2 er => h Hk' H' cls d x (S2.unframe hF) er
  | ok r =>
    obtain ⟨y, ρ1⟩ := r
    rw [ea] at h
    have h : okO c F Hk bp σ Q ((b ρ1).bind fun z ρ2 => match nkK y with | some _ => .ok (.dot [y] [z], ρ2) | none => .stuck) := h
    refine ⟨_, _, _, _, S1, ?_⟩
    rw [ea]
    intro Hk2 H2 v1 x2 S2 r2
    refine ⟨_, _, _, _, ⟨S2, S1.2.1, S1.2.2⟩, ?_⟩
    cases eb : b ρ1 with
    | stuck => rw [eb] at h; exact h.elim
    | exc e ρ2 =>
      rw [eb] at h
      exact fun Hk' H' cls d x S3 er => h Hk' H' cls d (x2.trans x) (S3.unframe hF) er
    | ok r =>
      obtain ⟨z, ρ2⟩ := r
      rw [eb] at h
      intro Hk3 H3 v2 x3 S3 r3
      have h : okO c F Hk bp σ Q (match nkK y with | some _ => .ok (.dot [y] [z], ρ2) | none => .stuck) := h
      split at h
      · rename_i k ek
        obtain ⟨bb, rfl, k1, k2, k3⟩ := nkK_ref ek r2
        have kn : KN c.K Hk3 [y] [z] [(k, bb, v2)] := ⟨k, bb, v2, [], rfl, k1, k2, RV.mono x3 _ _ k3, r3, rfl⟩
        refine ⟨S3.fr p _ upd_same, k, bb, rfl, NKey.of S3.ex k1 k2 (hK ▸ RV.mono x3 _ _ k3), ?_⟩
        exact h _ _ _ (x2.trans x3) (S3.landN hF kn)
      · exact h.elim
def mListN (i : Nat) : ME := fun ρ => match ρ[i]? with | some (some (.dot ks _)) => .ok (.lst ks, ρ) | _ => .stuck
theorem me_listN (hc : X.calm = true) (hm : X.mg "list" = none) (hN : X.N[i]? = some x) (hv : Vis X.env.scope x) (hK : c.K = X.K := by rfl) (hg : Gl X "list" := by rfl) (hd : (x == ("__debug__" : Str)) = false := by decide) (hcd : (x == ("__classdict__" : Str)) = false := by decide)
    (he : starEach [Expr.Name x p] X.env = (false, eval (.Name x p) X.env) :: starEach [] X.env := by rfl) (hpl : (backTo pos (starEach [] X.env)).any (·.1) = false := by rfl) : PE X (.Call (.Name "list" p2) [.Name x p] [] pos) (rdE c (mListN i)) :=
  PEw (pe_callTy (call_list_nd hc) hg hm (by decide +kernel) (pa_cons (pe_var hN hv hd hcd) pa_nil he) (he := he) (hpl := hpl)) fun σ H Q h => by
    obtain ⟨F, Hk, bp, ρ, S, h⟩ := h
    unfold mListN at h
    split at h
    · rename_i ks xs hx
      obtain ⟨q, l, g0, g1, g2, g3⟩ := S.1.changeN hx
      refine ⟨_, g0, q, l, rfl, g1, KN.keys S.1.ex (hK ▸ g2), fun r hr => ?_⟩
      have nk := S.1.ex.back hr
      exact h _ _ _ (Ex.new nk) (S.1.new hr) (RV.lst.mpr ⟨r, _, rfl, upd_same, (KN.refs g2).mono (Ex.new nk)⟩)
    · exact h.elim
def mGetN2 (i : Nat) (b d : ME) : ME := fun ρ => if isDot ρ i then (b ρ).bind fun y ρ1 => (d ρ1).bind fun z ρ2 => (match ρ2[i]?, nkK y with
  | some (some (.dot ks xs)), some k => .ok ((ndAt ks xs k).getD z, ρ2)
  | _, _ => .stuck) else .stuck
theorem me_getN2 {f : Expr} (hr : X.A.units + 64 < cLine) (hN : X.N[i]? = some x) (hv : Vis X.env.scope x) (hb : PE X e (rdE c b)) (hf : PE X f (rdE c d)) (m : M2 X (.Name x p) "get" apos e f cpos) (hK : c.K = X.K := by rfl)
    (hd : (x == ("__debug__" : Str)) = false := by decide) (hcd : (x == ("__classdict__" : Str)) = false := by decide) : PE X (.Call (.Attribute (.Name x p) "get" apos) [e, f] [] cpos) (rdE c (mGetN2 i b d)) :=
  PEw (pe_nget2 (by omega) (pe_var hN hv hd hcd) hb hf m) fun σ H Q h => by
    obtain ⟨F, Hk, bp, ρ, S, h⟩ := h
    unfold mGetN2 at h
    split at h
    · rename_i hh
      obtain ⟨ks, xs, hx⟩ := isDot_get hh
      obtain ⟨q, l, g0, g1, g2, g3⟩ := S.1.changeN hx
      refine ⟨.ref q, g0, ⟨q, l, rfl, g1⟩, ?_⟩
      refine rdw (bE postE S h) fun y' H2 ⟨Hk2, y, ρ2, x2, S2, r2, h2⟩ => ?_
      refine rdw (bE postE S2 h2) fun z' H3 ⟨Hk3, z, ρ3, x3, S3, r3, h3⟩ => ?_
      split at h3
      · rename_i ks' xs' k hx2 ek
        obtain ⟨bb, rfl, k1, k2, k3⟩ := nkK_ref ek r2
        obtain ⟨q2, l2, g02, g12, g22, g32⟩ := S3.1.changeN hx2
        rw [g0] at g02
        cases g02
        refine ⟨l2, k, ⟨q, bb, rfl, rfl, g12, KN.keys S3.1.ex (hK ▸ g22), NKey.of S3.1.ex k1 k2 (hK ▸ RV.mono x3 _ _ k3)⟩, h3 _ _ _ (Ex.refl _) S3.1 ?_⟩
        cases ea : ndAt ks' xs' k with
        | none => rw [(KN.at k g22).1 ea]; exact r3
        | some z => obtain ⟨u, e1, e2⟩ := (KN.at k g22).2 z ea; rw [e1]; exact e2
      · exact h3.elim
    · exact h.elim
end
section
variable {X : Cx} {c : Ct} {p pos : Pos} {e : Expr} {b : ME} {x : Str} {i : Nat}
theorem mt_ninN (hr : X.A.units + 64 < cLine) (hN : X.N[i]? = some x) (hv : Vis X.env.scope x) (hb : PE X e (rdE c b)) (hm : behindInMarks .NotIn (.Name x p) = false := by rfl) (hK : c.K = X.K := by rfl) (hd : (x == ("__debug__" : Str)) = false := by decide) (hcd : (x == ("__classdict__" : Str)) = false := by decide) : PT X (.Compare e [.NotIn] [.Name x p] pos) (rdT c (mTest (mInN true b i))) :=
  PTw (pt_cmp (pc_nnotin (by omega) hb (pe_var hN hv hd hcd)) hm) fun σ H Q h => rd_ninN (Q := fun x H' => ∃ k, x = .bl k ∧ Q k H') hK (rd_test h)
end
section
variable {i : Nat} {a b d : ME} {r : Option MV} {ρ : Env}
@[simp] theorem mSetN_ap : mSetN i a b (r :: ρ) = (a (r :: ρ)).bind fun z ρ1 => if has ρ1 i then (b ρ1).bind fun y ρ2 => match ρ2[i]?, nkK y with
  | some (some (.dot ks xs)), some k => if ks.length ≤ 10000 then .ok (.nx, ρ2.set i (some (.dot (ndPut ks xs y k z).1 (ndPut ks xs y k z).2))) else .stuck
  | _, _ => .stuck else .stuck := nr rfl
@[simp] theorem mIxN_ap : mIxN i b (r :: ρ) = if has (r :: ρ) i then (b (r :: ρ)).bind fun y ρ1 => match ρ1[i]?, nkK y with
  | some (some (.dot ks xs)), some k => (match ndAt ks xs k with | some z => .ok (z, ρ1) | none => .stuck)
  | _, _ => .stuck else .stuck := nr rfl
@[simp] theorem mInN_ap {n : Bool} : mInN n b i (r :: ρ) = (b (r :: ρ)).bind fun y ρ1 => if has ρ1 i then (match ρ1[i]?, nkK y with
  | some (some (.dot ks xs)), some k => .ok (.bl (n != (ndAt ks xs k).isSome), ρ1)
  | _, _ => .stuck) else .stuck := nr rfl
@[simp] theorem mDn0_ap : mDn0 (r :: ρ) = .ok (.dot [] [], r :: ρ) := nr rfl
@[simp] theorem mDn1_ap : mDn1 a b (r :: ρ) = (a (r :: ρ)).bind fun y ρ1 => (b ρ1).bind fun z ρ2 => match nkK y with | some _ => .ok (.dot [y] [z], ρ2) | none => .stuck := nr rfl
@[simp] theorem mListN_ap : mListN i (r :: ρ) = match (r :: ρ)[i]? with | some (some (.dot ks _)) => .ok (.lst ks, r :: ρ) | _ => .stuck := nr rfl
@[simp] theorem mGetN2_ap : mGetN2 i b d (r :: ρ) = if isDot (r :: ρ) i then (b (r :: ρ)).bind fun y ρ1 => (d ρ1).bind fun z ρ2 => (match ρ2[i]?, nkK y with
  | some (some (.dot ks xs)), some k => .ok ((ndAt ks xs k).getD z, ρ2)
  | _, _ => .stuck) else .stuck := nr rfl
end
end Tm
set_option Elab.async false
set_option linter.all false
set_option maxRecDepth 100000
set_option maxHeartbeats 2000000
namespace Tm
open PySem L2
open Evl (Ex ex_rd ex_l ex_t)
def tOwn (K : PySem.W.Frag) (i : Nat) : TI := fun σ H R => ∃ p vs, σ[i]? = some (some (.ref p)) ∧ H p = some (.lst vs) ∧ R (Itl K p) H
theorem pi_own {X : Cx} {tg : Expr} {i : Nat} {x : Str} {p : Pos} (hN : X.N[i]? = some x) (hv : Vis X.env.scope x) (hd : (x == ("__debug__" : Str)) = false := by decide) (hcd : (x == ("__classdict__" : Str)) = false := by decide) : PI X tg (.Name x p) (tOwn X.K i) :=
  PIw (pi_list (pe_var hN hv hd hcd)) fun σ H R ⟨p, vs, e, h, r⟩ => ⟨.ref p, e, p, rfl, ⟨vs, SqL.of h⟩, r⟩
def mLcW (i : Nat) (g : Tgt) (t : MT) (e : ME) (vs : List Nat) : ME := fun ρ => match ρ[i]? with
  | some (some (.own xs)) => if perAt (ρ.set i none) vs then (mLcLoop g t e vs xs [] (ρ.set i none)).b0 fun ys ρ2 => .ok (.own ys, (backM (ρ.set i none) ρ2 vs).set i (some (.own xs))) else .stuck
  | _ => .stuck
section
variable {K : PySem.W.Frag} {F Hk H : Hp} {bp : List (Nat × Addr)} {σ : St} {ρ : Env} {i : Nat} {xs : List MV} {p : Addr} {vs : List V}
theorem RS.lend (S : RS K F Hk H bp σ ρ) (h : ρ[i]? = some (some (.own xs))) : ∃ p vs, σ[i]? = some (some (.ref p)) ∧ H p = some (.lst vs) ∧ RVs K Hk xs vs ∧ F p = none ∧ Hk p = none ∧ RS K (upd F p (.lst vs)) Hk H bp σ (ρ.set i none) := by
  obtain ⟨ow, s⟩ := S.ow
  obtain ⟨v, ev, o⟩ := s.s i _ h
  obtain ⟨p, vs, rfl, eA, hH, r⟩ := OV.own.mp o
  have hp : p ∈ ow i := by rw [eA]; simp
  obtain ⟨g1, g2, _⟩ := s.f i p hp
  refine ⟨p, vs, ev, hH, r, g2, g1, by rw [List.length_set]; exact S.len, S.ex, fun a o ha => ?_, fun a o ha => ?_, ⟨put ow i [], fun j y hj => ?_, fun j a ha => ?_, fun j hj => ?_, fun j k a hjk ha => ?_⟩, S.bor⟩
  · by_cases e : a = p
    · rw [e, upd_same] at ha; rw [e, hH]; exact ha
    · rw [upd_ne e] at ha; exact S.fr a o ha
  · by_cases e : a = p
    · rw [e]; exact g1
    · rw [upd_ne e] at ha; exact S.frk a o ha
  · rcases set_get hj with ⟨_, e⟩ | ⟨ne, e⟩
    · cases e
    · obtain ⟨u, e1, e2⟩ := s.s j y e
      exact ⟨u, e1, by rw [put_ne ne]; exact e2⟩
  · by_cases e : j = i
    · rw [e, put_same] at ha; cases ha
    · rw [put_ne e] at ha
      obtain ⟨k1, k2, k3⟩ := s.f j a ha
      have ne : a ≠ p := fun z => s.d j i a e ha (z ▸ hp)
      exact ⟨k1, by rw [upd_ne ne]; exact k2, k3⟩
  · by_cases e : j = i
    · rw [e, put_same] at hj; exact (hj rfl).elim
    · rw [put_ne e] at hj; rw [List.length_set]; exact s.w j hj
  · by_cases e : j = i
    · rw [e, put_same] at ha; cases ha
    · rw [put_ne e] at ha
      by_cases e2 : k = i
      · rw [e2, put_same]; simp
      · rw [put_ne e2]; exact s.d j k a hjk ha
theorem RS.unlend (S : RS K (upd F p (.lst vs)) Hk H bp σ ρ) (hF : F p = none) (e : σ[i]? = some (some (.ref p))) (r : RVs K Hk xs vs) : RS K F Hk H bp σ (ρ.set i (some (.own xs))) := by
  have hk : Hk p = none := S.frk p _ upd_same
  have hH : H p = some (.lst vs) := S.fr p _ upd_same
  have up : ∀ a o, F a = some o → upd F p (.lst vs) a = some o := fun a o ha => by rw [upd_ne (ne_of_none ha hF)]; exact ha
  obtain ⟨ow, s⟩ := S.ow
  have nd : ∀ j a, a ∈ ow j → a ≠ p := fun j a ha z => by
    have := (s.f j a ha).2.1
    rw [z, upd_same] at this
    cases this
  have hil : i < ρ.length := by rw [← S.len]; exact lt_get e
  refine ⟨by rw [List.length_set]; exact S.len, S.ex, fun a o ha => S.fr a o (up a o ha), fun a o ha => S.frk a o (up a o ha), ⟨put ow i [p], fun j y hj => ?_, fun j a ha => ?_, fun j hj => ?_, fun j k a hjk ha => ?_⟩, S.bor⟩
  · rcases set_get hj with ⟨rfl, z⟩ | ⟨ne, z⟩
    · cases z
      exact ⟨_, e, by rw [put_same]; exact OV.own.mpr ⟨p, vs, rfl, rfl, hH, r⟩⟩
    · obtain ⟨u, e1, e2⟩ := s.s j y z
      exact ⟨u, e1, by rw [put_ne ne]; exact e2⟩
  · by_cases z : j = i
    · rw [z, put_same] at ha
      simp at ha
      subst ha
      exact ⟨hk, hF, _, hH⟩
    · rw [put_ne z] at ha
      obtain ⟨k1, k2, k3⟩ := s.f j a ha
      rw [upd_ne (nd j a ha)] at k2
      exact ⟨k1, k2, k3⟩
  · by_cases z : j = i
    · rw [z, List.length_set]; exact hil
    · rw [put_ne z] at hj; rw [List.length_set]; exact s.w j hj
  · by_cases z : j = i
    · rw [z, put_same] at ha
      simp at ha
      subst ha
      rw [put_ne (fun q => hjk (z.trans q.symm))]
      exact fun q => nd k _ q rfl
    · rw [put_ne z] at ha
      by_cases z2 : k = i
      · rw [z2, put_same]
        simp
        exact nd j a ha
      · rw [put_ne z2]; exact s.d j k a hjk ha
end
section
variable {X : Cx} {c : Ct}
theorem rd_lcW {i : Nat} {g : Tgt} {t : MT} {e : ME} {vs : List Nat} {σ : St} {H : Hp} {Q : VK} (hg : ∀ i ∈ g.slots, i ∈ vs) (hbs : ∀ i ∈ vs, c.bs.contains i = false) (hi : i ∉ vs) (h : rdO c (mLcW i g t e vs) σ H Q) : tLc (tOwn c.K i) (gOf c.K g) (rdT c t) (rdE c e) vs σ H Q := by
  obtain ⟨F, Hk, bp, ρ, S, h⟩ := h
  have hb : ∀ q ∈ bp, q.1 ∉ vs := fun q hq z => nb S.2.1 (hbs _ z) q hq rfl
  unfold mLcW at h
  split at h
  · rename_i xs hown
    obtain ⟨p, us, ev, hH, ru, hFp, hkp, S1⟩ := S.1.lend hown
    split at h
    · rename_i hper
      generalize hρ1 : ρ.set i none = ρ1 at *
      generalize hF0 : upd F p (.lst us) = F0 at *
      have F0p : F0 p = some (.lst us) := by rw [← hF0]; exact upd_same
      refine ⟨p, us, ev, hH, ?_⟩
      intro D hD
      have Dp : D ≠ p := fun z => by rw [z, hH] at hD; cases hD
      have h : ∀ r : Res (List MV × Env), mLcLoop g t e vs xs [] ρ1 = r → (match r with | .ok (ys, ρ2) => okO c F Hk bp σ Q (.ok (.own ys, (backM ρ1 ρ2 vs).set i (some (.own xs)))) | _ => False) := by
        intro r hr
        rw [hr] at h
        cases r with
        | ok q => exact h
        | exc x r => exact h
        | stuck => exact h
      have h := h _ rfl
      let okW : Hp → Res (List MV × Env) → Prop := fun Hk r => match r with | .ok (ys, ρ2) => okO c F Hk bp σ Q (.ok (.own ys, (backM ρ1 ρ2 vs).set i (some (.own xs)))) | _ => False
      have h : okW Hk (mLcLoop g t e vs xs [] ρ1) := h
      have st : ∀ Hk, ¬ okW Hk .stuck := fun _ f => f
      have mo : ∀ Hk Hk' r, Ex Hk Hk' → okW Hk r → okW Hk' r := fun Hk Hk' r x h => by
        cases r with
        | ok a => exact okO.mono (r := .ok (.own a.1, (backM ρ1 a.2 vs).set i (some (.own xs)))) x h
        | exc e ρ => exact h
        | stuck => exact h
      have fD : F0 D = none := by
        cases e : F0 D with
        | none => rfl
        | some o => have := S1.fr D o e; rw [hD] at this; cases this
      have p0 : ∀ j ∈ vs, ∀ x, ρ1[j]? = some (some x) → ∃ v, σ[j]? = some (some v) ∧ RV c.K Hk x v := fun j hj x hx => by
        have z := List.all_eq_true.mp hper j hj
        rw [hx] at z
        exact S1.get hx z
      have lst : ∀ {ws : List V} {H' : Hp}, Ex (upd F0 D (.lst ws)) H' → SqL c.K H' p us := fun x => SqL.of (x p _ (by rw [upd_ne (Ne.symm Dp)]; exact F0p))
      refine ⟨fun k m H' => m = xs.length - k ∧ k ≤ xs.length ∧ ∃ Hk' ρ' acc ws, Ex Hk Hk' ∧ RS c.K (upd F0 D (.lst ws)) Hk' H' bp (wipe σ vs) (wipeM ρ' vs) ∧ RVs c.K Hk' acc ws ∧ ρ'.length = ρ1.length ∧ okW Hk' (mLcLoop g t e vs (xs.drop k) acc ρ'),
        ⟨xs.length, by simp, Nat.zero_le _, Hk, ρ1, [], [], Ex.refl _, (S1.wipe vs hb).inFr hD, RVs.nil.mpr rfl, rfl, h⟩, ?_⟩
      rintro k m H' ⟨rfl, hk, Hk', ρ', acc, ws, x', S', ra, hl, h'⟩
      have sq := lst S'.fr
      by_cases hlt : k < xs.length
      · obtain ⟨v0, hv0, rv0⟩ := ru.get (i := k) (x := xs[k]) (by simp [hlt])
        refine .inr ⟨⟨us, v0, sq, hv0⟩, fun H2 => ∃ Hk2 ρ2 acc2 ws2, Ex Hk Hk2 ∧ RS c.K (upd F0 D (.lst ws2)) Hk2 H2 bp (wipe σ vs) (wipeM ρ2 vs) ∧ RVs c.K Hk2 acc2 ws2 ∧ ρ2.length = ρ1.length ∧ okW Hk2 (mLcLoop g t e vs (xs.drop (k + 1)) acc2 ρ2),
          fun H2 z => ⟨xs.length - (k + 1), by omega, rfl, hlt, z⟩, fun x H2 y => ?_⟩
        obtain ⟨e1, y⟩ := y
        have y := y us sq
        rw [hv0] at y
        cases y
        subst e1
        have ed : xs.drop k = xs[k] :: xs.drop (k + 1) := List.drop_eq_getElem_cons hlt
        rw [ed] at h'
        unfold mLcLoop at h'
        cases eg : setT g xs[k] (wipeM ρ' vs) with
        | none => rw [eg] at h'; exact h'.elim
        | some ρ3 =>
          rw [eg] at h'
          refine g_rd hb hg S' (RV.mono x' _ _ rv0) eg fun σ2 S4 w2 => ⟨by rw [w2, wipe_wipe], ?_⟩
          have w2' : wipe σ2 vs = wipe σ vs := by rw [w2, wipe_wipe]
          have jm : c.J (upd F0 D (.lst ws)) bp := c.Jm _ _ _ (Ex.new fD) (by rw [← hF0]; exact c.Jm _ _ _ (Ex.new hFp) S.2.2)
          refine rdTw (b0T st mo ⟨S4, S.2.1, jm⟩ h') fun b H3 ⟨Hk4, ρ4, x4, S5, h5⟩ => ?_
          cases b with
          | true =>
            rw [if_pos rfl] at h5 ⊢
            refine rdw (b0E st mo S5 h5) fun y H4 ⟨Hk5, yy, ρ5, x5, S6, r6, h6⟩ => ?_
            split at h6
            · rename_i hz
              have ra' := ra.mono (x4.trans x5)
              refine ⟨ws, S6.1.fr D _ upd_same, by rw [ra'.length]; exact hz.1, Hk5, ρ5, acc ++ [yy], ws ++ [y], x'.trans (x4.trans x5), ?_, ra'.append (RVs.cons.mpr ⟨y, [], rfl, r6, RVs.nil.mpr rfl⟩), by rw [hz.2, hl], h6⟩
              have := (S6.1.wipe vs hb)
              rw [w2'] at this
              exact this.grow
            · exact h6.elim
          | false =>
            rw [if_neg (by decide)] at h5 ⊢
            split at h5
            · rename_i hz
              refine ⟨Hk4, ρ4, acc, ws, x'.trans x4, ?_, ra.mono x4, by rw [hz, hl], h5⟩
              have := (S5.1.wipe vs hb)
              rw [w2'] at this
              exact this
            · exact h5.elim
      · have e : k = xs.length := by omega
        subst e
        rw [List.drop_length] at h'
        refine .inl ⟨⟨us, sq, by rw [ru.length]; exact Nat.le_refl _⟩, ?_⟩
        have bk : RS c.K (upd F0 D (.lst ws)) Hk' H' bp σ (backM ρ1 ρ' vs) := RS.back S' (fun j hj x hx => by
          obtain ⟨v, ev, rv⟩ := p0 j hj x hx
          exact ⟨v, ev, RV.mono x' _ _ rv⟩) hl.symm S1.len hb
        have o1 := bk.outFr fD ra
        rw [← hF0] at o1
        have il : i < σ.length := lt_get ev
        have o2 := o1.unlend (i := i) hFp (by rw [List.getElem?_append_left il]; exact ev) (ru.mono x')
        have lb : i < (backM ρ1 ρ' vs).length := by rw [← bk.len]; exact il
        rw [List.set_append_left _ _ lb] at o2
        exact h' _ _ _ (Ex.refl _) o2
    · exact h.elim
  · exact h.elim
end
section
variable {X : Cx} {c : Ct} {elt tg : Expr} {ifs : List Expr} {scope : Scope} {own : List (Str × Nat)} {pos : Pos} {g : Tgt} {t : MT} {e : ME} {j : Nat} {x : Str} {p : Pos}
theorem mo_lcW (hc : X.calm = true) (hN : X.N.Nodup) (hj : X.N[j]? = some x) (hv : Vis X.env.scope x) (ok : BlkOk X.N X.env.scope scope own) (hg : ∀ (s : Shared) (H : Hp) (C : Addr) (cl : List (Str × Addr)) (fp : List Addr), PG (X.blk s H scope (compEnvC scope cl C X.env) fp) tg (gOf X.K g))
    (ht : ∀ (s : Shared) (H : Hp) (C : Addr) (cl : List (Str × Addr)) (fp : List Addr), PTs (X.blk s H scope (compEnvC scope cl C X.env) fp) ifs (rdT c t)) (he : ∀ (s : Shared) (H : Hp) (C : Addr) (cl : List (Str × Addr)) (fp : List Addr), PE (X.blk s H scope (compEnvC scope cl C X.env) fp) elt (rdE c e))
    (hgs : ∀ i ∈ g.slots, i ∈ own.map (·.2) := by decide) (hjs : j ∉ own.map (·.2) := by decide) (hbs : ∀ i ∈ own.map (·.2), c.bs.contains i = false := by decide) (hK : c.K = X.K := by rfl) (hs : ∀ y, foldedSetIterable (.Name x p) X.env y = pure y := by intro _; rfl)
    (hd : (x == ("__debug__" : Str)) = false := by decide) (hcd : (x == ("__classdict__" : Str)) = false := by decide) :
    PE X (.ListComp elt [⟨tg, .Name x p, ifs, 0⟩] scope pos) (rdO c (mLcW j g t e (own.map (·.2)))) := PEw (pe_lc hc hN (pi_own hj hv hd hcd) ok hg ht he hs) fun σ H Q h => by rw [← hK]; exact rd_lcW hgs hbs hjs h
end
theorem lc_filt_it {α : Type} {g : Tgt} {t : MT} {e : ME} {vs : List Nat} {W : Env} (item y : α → MV) (p : α → Bool) : ∀ (l : List α) (acc : List MV) (ρ : Env), (∀ a ∈ l, ∃ ρ1, setT g (item a) W = some ρ1 ∧ t ρ1 = .ok (p a, ρ1) ∧ (p a = true → e ρ1 = .ok (y a, ρ1)) ∧ wipeM ρ1 vs = W ∧ ρ1.length = W.length) → wipeM ρ vs = W → ρ.length = W.length → acc.length + l.length ≤ sizeLine →
    ∃ ρ', mLcLoop g t e vs (l.map item) acc ρ = .ok (acc ++ (l.filter p).map y, ρ') ∧ wipeM ρ' vs = W ∧ ρ'.length = W.length
  | [], acc, ρ, _, hw, hl, _ => ⟨ρ, by simp [mLcLoop], hw, hl⟩
  | x :: l, acc, ρ, h, hw, hl, hz => by
    obtain ⟨ρ1, e1, et, e2, e3, e4⟩ := h x (List.mem_cons_self ..)
    rw [List.length_cons] at hz
    cases hp : p x with
    | true =>
      obtain ⟨ρ', r1, r2, r3⟩ := lc_filt_it (g := g) (t := t) (e := e) (vs := vs) item y p l (acc ++ [y x]) ρ1 (fun z hz => h z (List.mem_cons_of_mem _ hz)) e3 e4 (by rw [List.length_append, List.length_singleton]; omega)
      refine ⟨ρ', ?_, r2, r3⟩
      rw [List.map_cons]
      unfold mLcLoop
      rw [hw, e1]
      simp only [et, hp, b0_ok, if_true, e2 hp]
      rw [if_pos ⟨by omega, by rw [e4, hl]⟩, r1, List.filter_cons_of_pos hp]
      simp
    | false =>
      obtain ⟨ρ', r1, r2, r3⟩ := lc_filt_it (g := g) (t := t) (e := e) (vs := vs) item y p l acc ρ1 (fun z hz => h z (List.mem_cons_of_mem _ hz)) e3 e4 (by omega)
      refine ⟨ρ', ?_, r2, r3⟩
      rw [List.map_cons]
      unfold mLcLoop
      rw [hw, e1]
      simp only [et, hp, b0_ok, Bool.false_eq_true, if_false]
      rw [if_pos (by rw [e4, hl]), r1, List.filter_cons_of_neg (by simp [hp])]
theorem mLcO_itf {α : Type} {it : MI} {g : Tgt} {t : MT} {e : ME} {vs : List Nat} {ρ ρ1 : Env} {l : List α} (item y : α → MV) (p : α → Bool) (hi : it ρ = .ok (l.map item, ρ1)) (hp : perAt ρ1 vs = true) (hx : ∀ a ∈ l, ∃ ρ2, setT g (item a) (wipeM ρ1 vs) = some ρ2 ∧ t ρ2 = .ok (p a, ρ2) ∧ (p a = true → e ρ2 = .ok (y a, ρ2)) ∧ wipeM ρ2 vs = wipeM ρ1 vs ∧ ρ2.length = ρ1.length) (hz : l.length ≤ sizeLine) :
    mLcO it g t e vs ρ = .ok (.own ((l.filter p).map y), ρ1) := by
  obtain ⟨ρ', r1, r2, r3⟩ := lc_filt_it (g := g) (t := t) (e := e) (vs := vs) (W := wipeM ρ1 vs) item y p l [] ρ1 (fun x h => by
    obtain ⟨ρ2, a, b, c, d, f⟩ := hx x h
    exact ⟨ρ2, a, b, c, d, by rw [f, wipeM_len]⟩) rfl (wipeM_len ..).symm (by simpa using hz)
  unfold mLcO
  rw [hi, bind_ok, if_pos hp, r1]
  simp only [b0_ok, List.nil_append]
  rw [back_wipe vs ρ1 ρ' (by rw [r3, wipeM_len]) (wipe_other (by rw [r3, wipeM_len]) r2)]
theorem mLcW_itf {α : Type} {i : Nat} {g : Tgt} {t : MT} {e : ME} {vs : List Nat} {ρ : Env} {l : List α} (item y : α → MV) (p : α → Bool) (ho : ρ[i]? = some (some (.own (l.map item)))) (hp : perAt (ρ.set i none) vs = true) (hx : ∀ a ∈ l, ∃ ρ2, setT g (item a) (wipeM (ρ.set i none) vs) = some ρ2 ∧ t ρ2 = .ok (p a, ρ2) ∧ (p a = true → e ρ2 = .ok (y a, ρ2)) ∧ wipeM ρ2 vs = wipeM (ρ.set i none) vs ∧ ρ2.length = (ρ.set i none).length) (hz : l.length ≤ sizeLine) :
    mLcW i g t e vs ρ = .ok (.own ((l.filter p).map y), ρ) := by
  obtain ⟨ρ', r1, r2, r3⟩ := lc_filt_it (g := g) (t := t) (e := e) (vs := vs) (W := wipeM (ρ.set i none) vs) item y p l [] (ρ.set i none) (fun x h => by
    obtain ⟨ρ2, a, b, c, d, f⟩ := hx x h
    exact ⟨ρ2, a, b, c, d, by rw [f, wipeM_len]⟩) rfl (wipeM_len ..).symm (by simpa using hz)
  unfold mLcW
  rw [ho]
  show (if perAt (ρ.set i none) vs = true then (mLcLoop g t e vs (l.map item) [] (ρ.set i none)).b0 _ else .stuck) = _
  rw [if_pos hp, r1]
  simp only [b0_ok, List.nil_append]
  rw [back_wipe vs (ρ.set i none) ρ' (by rw [r3, wipeM_len]) (wipe_other (by rw [r3, wipeM_len]) r2), List.set_set]
  congr 2
  refine List.ext_getElem? fun j => ?_
  by_cases hj : i = j
  · subst hj
    rw [List.getElem?_set_self (lt_get ho), ho]
  · rw [List.getElem?_set_ne hj]
end Tm
set_option Elab.async false
set_option linter.all false
set_option maxRecDepth 100000
set_option maxHeartbeats 4000000
namespace Tm
open PySem L2
def fnNames : List Str := ["ahead_of_last", "all_or_none", "fill", "five_on", "half_up", "high_half", "lacking", "last_figure", "low_half", "lowest_two", "nine_less", "none_or_all", "not_all", "one_of_none", "one_of_two", "one_or_none", "order_byte", "other_twos", "product_byte", "sign_below", "six_on", "ten_high", "ten_low", "ten_or_none", "top_two"]
def m_lmixed : MS := mSeq (mAsg (mLst (mCons (mC (.int 2147483629)) (mCons (mC (.int 2147483587)) (mCons (mC (.int 2147483579)) (mCons (mC (.int 2147483563)) (mCons (mC (.int 2147483549)) (mCons (mC (.int 2147483543)) (mCons (mC (.int 2147483497)) (mCons (mC (.int 2147483489)) (mNil)))))))))) (gSet 3)) (mSeq (mAsg (mOp fMod (mOp fAdd (mOp fAdd (mOp fAdd (mVar 0) (mOp fMul (mC (.int 7919)) (mVar 2))) (mOp fMul (mC (.int 104729)) (mVar 1))) (mC (.int 13))) (mC (.int 2147483647))) (gSet 4)) (mSeq (mAsg (mOp fMod (mOp fPow (mVar 4) (mC (.int 5))) (mOp fIx (mVar 3) (mOp fMod (mVar 1) (mC (.int 8))))) (gSet 4)) (mSeq (mAsg (mOp fMod (mOp fAdd (mOp fAdd (mVar 4) (mOp fMul (mC (.int 40692)) (mVar 2))) (mVar 1)) (mC (.int 2147483647))) (gSet 5)) (mRet (mOp fAdd (mOp fMul (mOp fMod (mOp fPow (mVar 5) (mC (.int 5))) (mC (.int 2147483647))) (mC (.int 1000000007))) (mVar 4))))))
def f_lmixed : MF := mFn 6 [] m_lmixed
def b_ldraws_0 : MS := mIfS (mTest (mOp fGt (mVar 4) (mC (.int 0)))) (mSeq (mDrop (mLm lmAppend 3 (mCons (mOp fMod (mVar 4) (mOp fIx (mVar 2) (mVar 5))) (mNil)))) (mAsg (mOp fDiv (mVar 4) (mOp fIx (mVar 2) (mVar 5))) (gSet 4))) (mDrop (mLm lmAppend 3 (mCons (mOp fMod (mFz (mCall f_lmixed (mCons (mVar 0) (mCons (mVar 5) (mCons (mVar 1) (mNil)))))) (mOp fIx (mVar 2) (mVar 5))) (mNil))))
def m_ldraws : MS := mSeq (mSetO 3 (mLstO (mNil))) (mSeq (mAsg (mC (.int 0)) (gSet 4)) (mSeq (mIfS (mTest (mOp fGe (mBlt bAbs (mCons (mVar 0) (mNil))) (mOp fPow (mC (.int 10)) (mC (.int 18))))) (mAsg (mBlt bAbs (mCons (mVar 0) (mNil))) (gSet 4)) (mPass)) (mSeq (mFor (mR1 (mCons (mBlt bLen (mCons (mVar 2) (mNil))) (mNil))) (gSet 5) (b_ldraws_0)) (mRet (mMove 3)))))
def f_ldraws : MF := mFn 6 [] m_ldraws
def m_lcell : MS := mSeq (mIfS (mTest (mOp fLt (mVar 1) (mBlt bLen (mCons (mVar 0) (mNil))))) (mRet (mOp fIx (mVar 0) (mVar 1))) (mPass)) (mSeq (mIfS (mTest (mOp fEq (mBlt bLen (mCons (mVar 0) (mNil))) (mC (.int 0)))) (mRet (mOp fMul (mC (.int 7919)) (mOp fAdd (mVar 1) (mC (.int 1))))) (mPass)) (mRet (mOp fAdd (mOp fIx (mVar 0) (mOp fMod (mVar 1) (mBlt bLen (mCons (mVar 0) (mNil))))) (mOp fMul (mC (.int 104729)) (mVar 1)))))
def f_lcell : MF := mFn 2 [] m_lcell
def m_pis_table : MS := mRet (mBv (mAndT (mTest (mOp fEq (mBlt bLen (mCons (mVar 0) (mNil))) (mC (.int 256)))) (mTest (mBlt bAll (mCons (mFz (mLcO (mItV (mVar 0)) (.nm 1) (mYes) (mChain fLe fLt (mC (.int 0)) (mVar 1) (mC (.int 256))) [1])) (mNil))))))
def f_pis_table : MF := mFn 2 [] m_pis_table
def m_pparts_due : MS := mSeq (mIfS (mTest (mKin [("look", (.str "ct")), ("mark", (.str "m"))] (mVar 0))) (mRet (mKix [("look", (.str "ct")), ("mark", (.str "m"))] (mVar 0))) (mPass)) (mRet (mKget [("put", (.str "cb")), ("copy", (.str "cc")), ("add", (.str "cc")), ("addc", (.str "cc")), ("and", (.str "cc")), ("or", (.str "cc")), ("left", (.str "c")), ("right", (.str "c"))] (mVar 0)))
def f_pparts_due : MF := mFn 1 [] m_pparts_due
def m_pis_row : MS := mSeq (mAsg (mFz (mCall f_pparts_due (mCons (mOp fIx (mVar 0) (mC (.int 0))) (mNil)))) (gSet 3)) (mSeq (mIfS (mOrT (mTest (mOp fIsN (mVar 3) (mC .non))) (mTest (mOp fNe (mBlt bLen (mCons (mVar 0) (mNil))) (mOp fAdd (mC (.int 1)) (mBlt bLen (mCons (mVar 3) (mNil))))))) (mRet (mC (.bl false))) (mPass)) (mSeq (mAsg (mDict [.inr "c", .inr "b", .inr "t", .inr "m"] (mCons (mVar 1) (mCons (mC (.int 256)) (mCons (mVar 2) (mCons (mC (.int 2)) (mNil)))))) (gSet 4)) (mRet (mBlt bAll (mCons (mFz (mLcO (mZip (mCons (mSl (mVar 0) (mPart (mC (.int 1))) (mNo)) (mCons (mVar 3) (mNil)))) (.tp [5, 6]) (mYes) (mChain fLe fLt (mC (.int 0)) (mVar 5) (mOp fDix (mVar 4) (mVar 6))) [5, 6])) (mNil))))))
def f_pis_row : MF := mFn 7 [] m_pis_row
def b_phold_program_0 : MS := mIfS (mOrT (mTest (mOp fEq (mVar 4) (mC (.int 16)))) (mNotT (mTest (mFz (mCall f_pis_table (mCons (mVar 5) (mNil))))))) (mRaise1 "NoTable" "at" (mVar 4)) (mPass)
def b_phold_program_1 : MS := mIfS (mOrT (mTest (mOp fEq (mVar 4) (mC (.int 9000)))) (mNotT (mTest (mFz (mCall f_pis_row (mCons (mVar 6) (mCons (mVar 1) (mCons (mBlt bLen (mCons (mVar 2) (mNil))) (mNil))))))))) (mRaise1 "NoRow" "at" (mVar 4)) (mPass)
def m_phold_program : MS := mSeq (mAsg (mVar 0) (gTp 2 (gsCons (gSet 2) (gsCons (gSet 3) (gsNil))))) (mSeq (mFor (mEnumK 0 (mCons (mVar 2) (mNil))) (gTp 2 (gsCons (gSet 4) (gsCons (gSet 5) (gsNil)))) (b_phold_program_0)) (mFor (mEnumK 0 (mCons (mVar 3) (mNil))) (gTp 2 (gsCons (gSet 4) (gsCons (gSet 6) (gsNil)))) (b_phold_program_1)))
def f_phold_program : MF := mFn 7 [] m_phold_program
def m_pshift_step : MS := mSeq (mAsg (mIxV 1 (mVar 2)) (gSet 4)) (mSeq (mIfS (mTest (mOp fEq (mVar 0) (mC (.str "left")))) (mSeq (mSetIx 1 (mOp fMod (mOp fAdd (mOp fMul (mC (.int 2)) (mVar 4)) (mVar 3)) (mC (.int 256))) (mVar 2)) (mRet (mOp fDiv (mVar 4) (mC (.int 128))))) (mPass)) (mSeq (mSetIx 1 (mOp fAdd (mOp fDiv (mVar 4) (mC (.int 2))) (mOp fMul (mC (.int 128)) (mVar 3))) (mVar 2)) (mRet (mOp fMod (mVar 4) (mC (.int 2))))))
def f_pshift_step : MF := mFn 5 [1] m_pshift_step
def m_psum_step : MS := mSeq (mAsg (mOp fAdd (mIxV 1 (mVar 2)) (mIxV 1 (mVar 3))) (gSet 5)) (mSeq (mIfS (mTest (mOp fEq (mVar 0) (mC (.str "addc")))) (mAug fAddI 5 (mVar 4)) (mPass)) (mSeq (mSetIx 1 (mOp fMod (mVar 5) (mC (.int 256))) (mVar 2)) (mRet (mOp fDiv (mVar 5) (mC (.int 256))))))
def f_psum_step : MF := mFn 6 [1] m_psum_step
def m_pstep : MS := mSeq (mAsg (mOp fIx (mVar 1) (mC (.int 0))) (gSet 4)) (mSeq (mIfS (mTest (mOp fEq (mVar 4) (mC (.str "mark")))) (mRet (mOp fIx (mVar 1) (mC (.int 1)))) (mPass)) (mSeq (mIfS (mTest (mOp fIn (mVar 4) (mTup (mCons (mC (.str "left")) (mCons (mC (.str "right")) (mNil)))))) (mRet (mFz (mCallB f_pshift_step (mbV (mVar 4) (mbB 2 (mbV (mOp fIx (mVar 1) (mC (.int 1))) (mbV (mVar 3) (mbNil)))))))) (mPass)) (mSeq (mAsg (mSl (mVar 1) (mPart (mC (.int 1))) (mNo)) (gTp 2 (gsCons (gSet 5) (gsCons (gSet 6) (gsNil))))) (mSeq (mIfS (mTest (mOp fIn (mVar 4) (mTup (mCons (mC (.str "add")) (mCons (mC (.str "addc")) (mNil)))))) (mRet (mFz (mCallB f_psum_step (mbV (mVar 4) (mbB 2 (mbV (mVar 5) (mbV (mVar 6) (mbV (mVar 3) (mbNil))))))))) (mPass)) (mSeq (mIfS (mTest (mOp fEq (mVar 4) (mC (.str "put")))) (mSetIx 2 (mVar 6) (mVar 5)) (mIfS (mTest (mOp fEq (mVar 4) (mC (.str "copy")))) (mSetIx 2 (mIxV 2 (mVar 6)) (mVar 5)) (mIfS (mTest (mOp fEq (mVar 4) (mC (.str "and")))) (mSetIx 2 (mOp fAnd (mIxV 2 (mVar 5)) (mIxV 2 (mVar 6))) (mVar 5)) (mIfS (mTest (mOp fEq (mVar 4) (mC (.str "or")))) (mSetIx 2 (mOp fOr (mIxV 2 (mVar 5)) (mIxV 2 (mVar 6))) (mVar 5)) (mSetIx 2 (mOp fIx (mOp fIx (mVar 0) (mVar 6)) (mIxV 2 (mVar 5))) (mVar 5)))))) (mRet (mVar 3)))))))
def f_pstep : MF := mFn 7 [2] m_pstep
def b_lrun_0 : MS := mSeq (mAsg (mOp fIx (mVar 3) (mC (.int 0))) (gSet 6)) (mSeq (mAsg (mOp fIx (mVar 3) (mC (.int 1))) (gSet 7)) (mIfS (mTest (mOp fEq (mVar 6) (mC (.str "copy")))) (mSetIx 1 (mIxV 1 (mOp fIx (mVar 3) (mC (.int 2)))) (mVar 7)) (mIfS (mTest (mOp fEq (mVar 6) (mC (.str "look")))) (mSetIx 1 (mOp fIx (mOp fIx (mVar 4) (mOp fIx (mVar 3) (mC (.int 2)))) (mIxV 1 (mVar 7))) (mVar 7)) (mIfS (mOrT (mTest (mOp fEq (mVar 6) (mC (.str "add")))) (mTest (mOp fEq (mVar 6) (mC (.str "addc"))))) (mSeq (mAsg (mOp fAdd (mOp fAdd (mIxV 1 (mVar 7)) (mIxV 1 (mOp fIx (mVar 3) (mC (.int 2))))) (mOp fMul (mVar 2) (mBlt bInt (mCons (mOp fEq (mVar 6) (mC (.str "addc"))) (mNil))))) (gSet 8)) (mSeq (mSetIx 1 (mOp fMod (mVar 8) (mC (.int 256))) (mVar 7)) (mAsg (mOp fDiv (mVar 8) (mC (.int 256))) (gSet 2)))) (mIfS (mTest (mOp fEq (mVar 6) (mC (.str "put")))) (mSetIx 1 (mOp fIx (mVar 3) (mC (.int 2))) (mVar 7)) (mIfS (mTest (mOp fEq (mVar 6) (mC (.str "and")))) (mSetIx 1 (mOp fAnd (mIxV 1 (mVar 7)) (mIxV 1 (mOp fIx (mVar 3) (mC (.int 2))))) (mVar 7)) (mIfS (mTest (mOp fEq (mVar 6) (mC (.str "or")))) (mSetIx 1 (mOp fOr (mIxV 1 (mVar 7)) (mIxV 1 (mOp fIx (mVar 3) (mC (.int 2))))) (mVar 7)) (mIfS (mTest (mOp fEq (mVar 6) (mC (.str "left")))) (mSeq (mAsg (mOp fAdd (mOp fMul (mC (.int 2)) (mIxV 1 (mVar 7))) (mVar 2)) (gSet 8)) (mSeq (mSetIx 1 (mOp fMod (mVar 8) (mC (.int 256))) (mVar 7)) (mAsg (mOp fDiv (mVar 8) (mC (.int 256))) (gSet 2)))) (mIfS (mTest (mOp fEq (mVar 6) (mC (.str "right")))) (mSeq (mAsg (mOp fAdd (mIxV 1 (mVar 7)) (mOp fMul (mC (.int 256)) (mVar 2))) (gSet 8)) (mSeq (mSetIx 1 (mOp fDiv (mVar 8) (mC (.int 2))) (mVar 7)) (mAsg (mOp fMod (mVar 8) (mC (.int 2))) (gSet 2)))) (mAsg (mVar 7) (gSet 2)))))))))))
def m_lrun : MS := mSeq (mAsg (mVar 0) (gTp 2 (gsCons (gSet 4) (gsCons (gSet 5) (gsNil))))) (mSeq (mSetO 1 (mListO (mCons (mVar 1) (mNil)))) (mSeq (mFor (mItV (mVar 5)) (gSet 3) (b_lrun_0)) (mRet (mTup (mCons (mVar 1) (mCons (mVar 2) (mNil)))))))
def f_lrun : MF := mFn 9 [] m_lrun
def m_lsome_row : MS := mSeq (mAsg (mFz (mCall f_ldraws (mCons (mVar 0) (mCons (mVar 1) (mCons (mLst (mCons (mC (.int 12)) (mCons (mC (.int 256)) (mCons (mC (.int 256)) (mCons (mC (.int 256)) (mNil)))))) (mNil)))))) (gTp 4 (gsCons (gSet 5) (gsCons (gSet 6) (gsCons (gSet 7) (gsCons (gSet 8) (gsNil))))))) (mSeq (mAsg (mOp fIx (mLst (mCons (mC (.str "put")) (mCons (mC (.str "copy")) (mCons (mC (.str "add")) (mCons (mC (.str "addc")) (mCons (mC (.str "and")) (mCons (mC (.str "or")) (mCons (mC (.str "left")) (mCons (mC (.str "right")) (mCons (mC (.str "look")) (mCons (mC (.str "mark")) (mCons (mC (.str "add")) (mCons (mC (.str "left")) (mNil)))))))))))))) (mVar 5)) (gSet 4)) (mSeq (mIfS (mAndT (mTest (mOp fEq (mVar 4) (mC (.str "look")))) (mTest (mOp fEq (mVar 3) (mC (.int 0))))) (mAsg (mC (.str "copy")) (gSet 4)) (mPass)) (mSeq (mIfS (mTest (mOp fEq (mVar 4) (mC (.str "mark")))) (mRet (mTup (mCons (mVar 4) (mCons (mOp fMod (mVar 8) (mC (.int 2))) (mNil))))) (mPass)) (mSeq (mIfS (mTest (mOp fIn (mVar 4) (mTup (mCons (mC (.str "left")) (mCons (mC (.str "right")) (mNil)))))) (mRet (mTup (mCons (mVar 4) (mCons (mOp fMod (mVar 6) (mVar 2)) (mNil))))) (mPass)) (mSeq (mIfS (mTest (mOp fEq (mVar 4) (mC (.str "put")))) (mRet (mTup (mCons (mVar 4) (mCons (mOp fMod (mVar 6) (mVar 2)) (mCons (mVar 8) (mNil)))))) (mPass)) (mSeq (mIfS (mTest (mOp fEq (mVar 4) (mC (.str "look")))) (mRet (mTup (mCons (mVar 4) (mCons (mOp fMod (mVar 6) (mVar 2)) (mCons (mOp fMod (mVar 7) (mVar 3)) (mNil)))))) (mPass)) (mRet (mTup (mCons (mVar 4) (mCons (mOp fMod (mVar 6) (mVar 2)) (mCons (mOp fMod (mVar 7) (mVar 2)) (mNil))))))))))))
def f_lsome_row : MF := mFn 9 [] m_lsome_row
def m_lmenu : MS := mSeq (mAsg (mFz (mCall f_ldraws (mCons (mFz (mCall f_lcell (mCons (mVar 0) (mCons (mVar 1) (mNil))))) (mCons (mOp fAdd (mC (.int 3)) (mVar 1)) (mCons (mLst (mCons (mC (.int 4)) (mCons (mC (.int 4)) (mCons (mC (.int 4)) (mNil))))) (mNil)))))) (gTp 3 (gsCons (gSet 5) (gsCons (gSet 6) (gsCons (gSet 7) (gsNil)))))) (mSeq (mSetO 4 (mLcO (mR1 (mCons (mOp fAdd (mC (.int 1)) (mVar 5)) (mNil))) (.nm 8) (mYes) (mFz (mCall0 f_lsome_row (mCons (mFz (mCall0 f_lcell (mCons (mVar 0) (mCons (mOp fAdd (mOp fAdd (mVar 1) (mC (.int 1))) (mVar 8)) (mNil))))) (mCons (mOp fAdd (mC (.int 11)) (mOp fMul (mC (.int 7)) (mVar 8))) (mCons (mVar 2) (mCons (mVar 3) (mNil))))))) [8])) (mSeq (mIfS (mTest (mOp fEq (mVar 6) (mC (.int 1)))) (mSetIx 4 (mIxV 4 (mC (.int 0))) (mOp fMod (mVar 7) (mLenV 4))) (mPass)) (mRet (mBlt bTuple (mCons (mVar 4) (mNil))))))
def f_lmenu : MF := mFn 9 [] m_lmenu
def b_lstarts_0 : MS := mSeq (mAsg (mFz (mCall f_ldraws (mCons (mOp fAdd (mFz (mCall f_lcell (mCons (mVar 0) (mCons (mOp fAdd (mVar 1) (mC (.int 1))) (mNil))))) (mOp fMul (mOp fMul (mC (.int 104729)) (mVar 4)) (mBlt bInt (mCons (mOp fLt (mVar 6) (mC (.int 3))) (mNil))))) (mCons (mOp fAdd (mC (.int 17)) (mVar 4)) (mCons (mOp fAdd (mLst (mCons (mC (.int 2)) (mNil))) (mOp fMul (mLst (mCons (mC (.int 256)) (mNil))) (mVar 2))) (mNil)))))) (gSet 10)) (mSeq (mIfS (mTest (mOp fEq (mVar 6) (mC (.int 0)))) (mSeq (mAsg (mLst (mCons (mC (.int 0)) (mCons (mC (.int 1)) (mCons (mC (.int 127)) (mCons (mC (.int 128)) (mCons (mC (.int 255)) (mCons (mVar 7) (mCons (mVar 8) (mCons (mVar 9) (mNil)))))))))) (gSet 11)) (mAsg (mOp fAdd (mLst (mCons (mOp fIx (mVar 10) (mC (.int 0))) (mNil))) (mFz (mLcO (mItV (mSl (mVar 10) (mPart (mC (.int 1))) (mNo))) (.nm 12) (mYes) (mOp fIx (mVar 11) (mOp fMod (mVar 12) (mC (.int 8)))) [12]))) (gSet 10))) (mPass)) (mDrop (mLm lmAppend 3 (mCons (mTup (mCons (mBlt bTuple (mCons (mSl (mVar 10) (mPart (mC (.int 1))) (mNo)) (mNil))) (mCons (mOp fIx (mVar 10) (mC (.int 0))) (mNil)))) (mNil)))))
def m_lstarts : MS := mSeq (mAsg (mFz (mCall f_ldraws (mCons (mFz (mCall f_lcell (mCons (mVar 0) (mCons (mVar 1) (mNil))))) (mCons (mOp fAdd (mC (.int 5)) (mVar 1)) (mCons (mLst (mCons (mC (.int 5)) (mCons (mC (.int 4)) (mCons (mC (.int 256)) (mCons (mC (.int 256)) (mCons (mC (.int 256)) (mNil))))))) (mNil)))))) (gTp 5 (gsCons (gSet 5) (gsCons (gSet 6) (gsCons (gSet 7) (gsCons (gSet 8) (gsCons (gSet 9) (gsNil)))))))) (mSeq (mSetO 3 (mLstO (mNil))) (mSeq (mFor (mR1 (mCons (mOp fAdd (mC (.int 1)) (mVar 5)) (mNil))) (gSet 4) (b_lstarts_0)) (mRet (mBlt bTuple (mCons (mVar 3) (mNil))))))
def f_lstarts : MF := mFn 13 [] m_lstarts
def m_ljust (self : MF) : MS := mSeq (mIfS (mTest (mBlt bIsi (mCons (mVar 1) (mCons (mC (.raw (.ty "tuple"))) mNil)))) (mSeq (mIfS (mOrT (mNotT (mTest (mBlt bIsi (mCons (mVar 0) (mCons (mC (.raw (.ty "tuple"))) mNil))))) (mTest (mOp fNe (mBlt bLen (mCons (mVar 0) (mNil))) (mBlt bLen (mCons (mVar 1) (mNil)))))) (mRet (mC (.bl false))) (mPass)) (mRet (mBlt bAll (mCons (mFz (mLcO (mZip (mCons (mVar 0) (mCons (mVar 1) (mNil)))) (.tp [2, 3]) (mYes) (mFz (mCall0 self (mCons (mVar 2) (mCons (mVar 3) (mNil))))) [2, 3])) (mNil))))) (mPass)) (mSeq (mIfS (mOrT (mTest (mBlt bIsi (mCons (mVar 1) (mCons (mC (.raw (.ty "str"))) mNil)))) (mTest (mOp fIsN (mVar 1) (mC .non)))) (mRet (mBv (mAndT (mTest (mOp fEq (mBlt bIsi (mCons (mVar 0) (mCons (mC (.raw (.ty "str"))) mNil))) (mBlt bIsi (mCons (mVar 1) (mCons (mC (.raw (.ty "str"))) mNil))))) (mTest (mOp fEq (mVar 0) (mVar 1)))))) (mPass)) (mSeq (mIfS (mOrT (mNotT (mTest (mBlt bIsi (mCons (mVar 0) (mCons (mC (.raw (.ty "int"))) mNil))))) (mTest (mOp fNe (mBlt bIsi (mCons (mVar 0) (mCons (mC (.raw (.ty "bool"))) mNil))) (mBlt bIsi (mCons (mVar 1) (mCons (mC (.raw (.ty "bool"))) mNil)))))) (mRet (mC (.bl false))) (mPass)) (mRet (mOp fEq (mVar 0) (mVar 1)))))
def b_lbehind_0 : MS := mSeq (mAsg (mFz (mCall f_lrun (mCons (mTup (mCons (mVar 0) (mCons (mTup (mCons (mVar 1) (mNil))) (mNil)))) (mCons (mVar 4) (mCons (mVar 5) (mNil)))))) (gTp 2 (gsCons (gSet 6) (gsCons (gSet 5) (gsNil))))) (mDrop (mLm lmAppend 3 (mCons (mTup (mCons (mBlt bTuple (mCons (mVar 6) (mNil))) (mCons (mVar 5) (mNil)))) (mNil))))
def m_lbehind : MS := mSeq (mSetO 3 (mLstO (mNil))) (mSeq (mFor (mItV (mVar 2)) (gTp 2 (gsCons (gSet 4) (gsCons (gSet 5) (gsNil)))) (b_lbehind_0)) (mRet (mBlt bTuple (mCons (mVar 3) (mNil)))))
def f_lbehind : MF := mFn 7 [] m_lbehind
def m_pheld_menu : MS := mDrop (mFz (mCall f_phold_program (mCons (mTup (mCons (mVar 0) (mCons (mVar 1) (mNil)))) (mCons (mBlt bLen (mCons (mOp fIx (mOp fIx (mVar 2) (mC (.int 0))) (mC (.int 0))) (mNil))) (mNil)))))
def f_pheld_menu : MF := mFn 3 [] m_pheld_menu
def b_pbehind_row_0 : MS := mSeq (mSetO 6 (mListO (mCons (mVar 4) (mNil)))) (mSeq (mAsg (mFz (mCallB f_pstep (mbV (mVar 0) (mbV (mVar 1) (mbB 6 (mbV (mVar 5) (mbNil))))))) (gSet 5)) (mDrop (mLm lmAppend 3 (mCons (mTup (mCons (mBlt bTuple (mCons (mVar 6) (mNil))) (mCons (mVar 5) (mNil)))) (mNil)))))
def m_pbehind_row : MS := mSeq (mSetO 3 (mLstO (mNil))) (mSeq (mFor (mItV (mVar 2)) (gTp 2 (gsCons (gSet 4) (gsCons (gSet 5) (gsNil)))) (b_pbehind_row_0)) (mRet (mBlt bTuple (mCons (mVar 3) (mNil)))))
def f_pbehind_row : MF := mFn 7 [] m_pbehind_row
def b_pall_states_0 : MS := mSeq (mAsg (mFz (mCall f_pbehind_row (mCons (mVar 0) (mCons (mVar 11) (mCons (mVar 9) (mNil)))))) (gSet 12)) (mIfS (mTest (mInN true (mVar 12) 5)) (mSeq (mSetN 5 (mOp fAdd (mIxN 5 (mVar 9)) (mTup (mCons (mVar 10) (mNil)))) (mVar 12)) (mDrop (mLm lmAppend 8 (mCons (mVar 12) (mNil))))) (mPass))
def b_pall_states_1 : MS := mFor (mEnumK 0 (mCons (mVar 1) (mNil))) (gTp 2 (gsCons (gSet 10) (gsCons (gSet 11) (gsNil)))) (b_pall_states_0)
def b_pall_states_2 : MS := mSeq (mSetO 8 (mLstO (mNil))) (mSeq (mFor (mItV (mVar 6)) (gSet 9) (b_pall_states_1)) (mAsg (mVar 8) (gSet 6)))
def m_pall_states : MS := mSeq (mAsg (mBlt bTuple (mCons (mFz (mLcO (mItV (mVar 2)) (.tp [13, 14]) (mYes) (mTup (mCons (mBlt bTuple (mCons (mVar 13) (mNil))) (mCons (mVar 14) (mNil)))) [13, 14])) (mNil))) (gSet 4)) (mSeq (mSetO 5 (mDn1 (mVar 4) (mTup (mNil)))) (mSeq (mAsg (mLst (mCons (mVar 4) (mNil))) (gSet 6)) (mSeq (mFor (mR1 (mCons (mVar 3) (mNil))) (gSet 7) (b_pall_states_2)) (mRet (mFz (mLcO (mItV (mListN 5)) (.nm 9) (mYes) (mTup (mCons (mIxN 5 (mVar 9)) (mCons (mVar 9) (mNil)))) [9]))))))
def f_pall_states : MF := mFn 15 [] m_pall_states
def m_plisted : MS := mSeq (mDrop (mFz (mCall f_pheld_menu (mCons (mVar 0) (mCons (mVar 1) (mCons (mVar 2) (mNil))))))) (mRet (mBlt bTuple (mCons (mFz (mCall f_pall_states (mCons (mVar 0) (mCons (mVar 1) (mCons (mVar 2) (mCons (mVar 3) (mNil))))))) (mNil))))
def f_plisted : MF := mFn 4 [] m_plisted
def m_lsome_table : MS := mSeq (mAsg (mFz (mCall f_ldraws (mCons (mVar 0) (mCons (mVar 1) (mCons (mLst (mCons (mC (.int 4)) (mCons (mC (.int 256)) (mCons (mC (.int 256)) (mCons (mC (.int 65519)) (mNil)))))) (mNil)))))) (gTp 4 (gsCons (gSet 2) (gsCons (gSet 3) (gsCons (gSet 4) (gsCons (gSet 5) (gsNil))))))) (mSeq (mIfS (mTest (mOp fEq (mVar 2) (mC (.int 0)))) (mRet (mBlt bTuple (mCons (mFz (mLcO (mR1 (mCons (mC (.int 256)) (mNil))) (.nm 6) (mYes) (mOp fMod (mOp fAdd (mVar 6) (mVar 3)) (mC (.int 256))) [6])) (mNil)))) (mPass)) (mSeq (mIfS (mTest (mOp fEq (mVar 2) (mC (.int 1)))) (mRet (mBlt bTuple (mCons (mFz (mLcO (mR1 (mCons (mC (.int 256)) (mNil))) (.nm 6) (mYes) (mOp fSub (mC (.int 255)) (mVar 6)) [6])) (mNil)))) (mPass)) (mRet (mBlt bTuple (mCons (mFz (mLcO (mR1 (mCons (mC (.int 256)) (mNil))) (.nm 6) (mYes) (mOp fMod (mOp fDiv (mOp fMod (mOp fAdd (mOp fAdd (mOp fMul (mOp fMul (mVar 5) (mVar 6)) (mVar 6)) (mOp fMul (mVar 4) (mVar 6))) (mVar 3)) (mC (.int 65519))) (mC (.int 7))) (mC (.int 256))) [6])) (mNil))))))
def f_lsome_table : MF := mFn 7 [] m_lsome_table
def m_pstarts_of : MS := mRet (mBlt bTuple (mCons (mFz (mLcO (mItV (mVar 0)) (.nm 1) (mYes) (mTup (mCons (mOp fIx (mVar 1) (mC (.int 0))) (mCons (mOp fIx (mVar 1) (mC (.int 1))) (mNil)))) [1])) (mNil)))
def f_pstarts_of : MF := mFn 2 [] m_pstarts_of
def m_pdoes_all : MS := mRet (mBlt bAll (mCons (mFz (mLcO (mZip (mCons (mVar 0) (mCons (mVar 1) (mNil)))) (.tp [2, 3]) (mYes) (mOp fEq (mOp fIx (mOp fIx (mVar 2) (mC (.int 0))) (mC (.int 0))) (mOp fIx (mVar 3) (mC (.int 2)))) [2, 3])) (mNil)))
def f_pdoes_all : MF := mFn 4 [] m_pdoes_all
def b_pleast_0 : MS := mIfS (mTest (mFz (mCall f_pdoes_all (mCons (mVar 6) (mCons (mVar 2) (mNil)))))) (mRet (mTup (mCons (mC (.str "least")) (mCons (mVar 5) (mNil))))) (mPass)
def m_pleast : MS := mSeq (mAsg (mFz (mCall f_plisted (mCons (mVar 0) (mCons (mVar 1) (mCons (mFz (mCall f_pstarts_of (mCons (mVar 2) (mNil)))) (mCons (mVar 3) (mNil))))))) (gSet 4)) (mSeq (mFor (mItV (mVar 4)) (gTp 2 (gsCons (gSet 5) (gsCons (gSet 6) (gsNil)))) (b_pleast_0)) (mRet (mTup (mCons (mC (.str "none")) (mCons (mVar 4) (mNil))))))
def f_pleast : MF := mFn 7 [] m_pleast
def m_lwanted : MS := mRet (mBlt bAll (mCons (mFz (mLcO (mZip (mCons (mVar 0) (mCons (mVar 1) (mNil)))) (.tp [2, 3]) (mYes) (mOp fEq (mOp fIx (mOp fIx (mVar 2) (mC (.int 0))) (mC (.int 0))) (mVar 3)) [2, 3])) (mNil)))
def f_lwanted : MF := mFn 4 [] m_lwanted
def b_pis_word_0 : MS := mIfS (mOrT (mNotT (mTest (mBlt bIsi (mCons (mVar 3) (mCons (mC (.raw (.ty "int"))) mNil))))) (mOrT (mTest (mBlt bIsi (mCons (mVar 3) (mCons (mC (.raw (.ty "bool"))) mNil)))) (mNotT (mTest (mChain fLe fLt (mC (.int 0)) (mVar 3) (mVar 1)))))) (mRet (mC (.bl false))) (mPass)
def m_pis_word : MS := mSeq (mIfS (mOrT (mNotT (mTest (mBlt bIsi (mCons (mVar 0) (mCons (mC (.raw (.ty "tuple"))) mNil))))) (mTest (mOp fGt (mBlt bLen (mCons (mVar 0) (mNil))) (mVar 2)))) (mRet (mC (.bl false))) (mPass)) (mSeq (mFor (mItV (mVar 0)) (gSet 3) (b_pis_word_0)) (mRet (mC (.bl true))))
def f_pis_word : MF := mFn 4 [] m_pis_word
def m_pis_just (self : MF) : MS := mSeq (mIfS (mTest (mBlt bIsi (mCons (mVar 1) (mCons (mC (.raw (.ty "tuple"))) mNil)))) (mSeq (mIfS (mOrT (mNotT (mTest (mBlt bIsi (mCons (mVar 0) (mCons (mC (.raw (.ty "tuple"))) mNil))))) (mTest (mOp fNe (mBlt bLen (mCons (mVar 0) (mNil))) (mBlt bLen (mCons (mVar 1) (mNil)))))) (mRet (mC (.bl false))) (mPass)) (mRet (mBlt bAll (mCons (mFz (mLcO (mZip (mCons (mVar 0) (mCons (mVar 1) (mNil)))) (.tp [2, 3]) (mYes) (mFz (mCall0 self (mCons (mVar 2) (mCons (mVar 3) (mNil))))) [2, 3])) (mNil))))) (mPass)) (mSeq (mIfS (mTest (mBlt bIsi (mCons (mVar 1) (mCons (mC (.raw (.ty "str"))) mNil)))) (mRet (mBv (mAndT (mTest (mBlt bIsi (mCons (mVar 0) (mCons (mC (.raw (.ty "str"))) mNil)))) (mTest (mOp fEq (mVar 0) (mVar 1)))))) (mPass)) (mSeq (mIfS (mOrT (mNotT (mTest (mBlt bIsi (mCons (mVar 0) (mCons (mC (.raw (.ty "int"))) mNil))))) (mTest (mOp fNe (mBlt bIsi (mCons (mVar 0) (mCons (mC (.raw (.ty "bool"))) mNil))) (mBlt bIsi (mCons (mVar 1) (mCons (mC (.raw (.ty "bool"))) mNil)))))) (mRet (mC (.bl false))) (mPass)) (mRet (mOp fEq (mVar 0) (mVar 1)))))
def f_pis_just : MF := mRec 4 [] m_pis_just 8
def b_pstate_of_0 : MS := mAsg (mFz (mCall f_pbehind_row (mCons (mVar 0) (mCons (mOp fIx (mVar 1) (mVar 5)) (mCons (mVar 4) (mNil)))))) (gSet 4)
def m_pstate_of : MS := mSeq (mAsg (mVar 2) (gSet 4)) (mSeq (mFor (mItV (mVar 3)) (gSet 5) (b_pstate_of_0)) (mRet (mVar 4)))
def f_pstate_of : MF := mFn 6 [] m_pstate_of
def b_ppairs_right_0 : MS := mSeq (mIfS (mOrT (mNotT (mTest (mBlt bIsi (mCons (mVar 5) (mCons (mC (.raw (.ty "tuple"))) mNil))))) (mOrT (mTest (mOp fNe (mBlt bLen (mCons (mVar 5) (mNil))) (mC (.int 2)))) (mNotT (mTest (mFz (mCall f_pis_word (mCons (mOp fIx (mVar 5) (mC (.int 0))) (mCons (mBlt bLen (mCons (mVar 1) (mNil))) (mCons (mVar 3) (mNil)))))))))) (mRet (mC (.bl false))) (mPass)) (mIfS (mNotT (mTest (mFz (mCall f_pis_just (mCons (mOp fIx (mVar 5) (mC (.int 1))) (mCons (mFz (mCall f_pstate_of (mCons (mVar 0) (mCons (mVar 1) (mCons (mVar 2) (mCons (mOp fIx (mVar 5) (mC (.int 0))) (mNil))))))) (mNil))))))) (mRet (mC (.bl false))) (mPass))
def m_ppairs_right : MS := mSeq (mIfS (mOrT (mNotT (mTest (mBlt bIsi (mCons (mVar 4) (mCons (mC (.raw (.ty "tuple"))) mNil))))) (mTest (mOp fEq (mBlt bLen (mCons (mVar 4) (mNil))) (mC (.int 0))))) (mRet (mC (.bl false))) (mPass)) (mSeq (mFor (mItV (mVar 4)) (gSet 5) (b_ppairs_right_0)) (mRet (mOp fEq (mOp fIx (mOp fIx (mVar 4) (mC (.int 0))) (mC (.int 0))) (mTup (mNil)))))
def f_ppairs_right : MF := mFn 6 [] m_ppairs_right
def b_ppairs_shut_0 : MS := mSetN 4 (mBlt bMin (mCons (mBlt bLen (mCons (mVar 5) (mNil))) (mCons (mGetN2 4 (mVar 6) (mVar 2)) (mNil)))) (mVar 6)
def b_ppairs_shut_1 : MS := mIfS (mTest (mOp fGt (mGetN2 4 (mFz (mCall f_pbehind_row (mCons (mVar 0) (mCons (mVar 7) (mCons (mVar 6) (mNil)))))) (mOp fAdd (mVar 2) (mC (.int 1)))) (mOp fAdd (mBlt bLen (mCons (mVar 5) (mNil))) (mC (.int 1))))) (mRet (mC (.bl false))) (mPass)
def b_ppairs_shut_2 : MS := mIfS (mTest (mOp fLt (mBlt bLen (mCons (mVar 5) (mNil))) (mVar 2))) (mFor (mItV (mVar 1)) (gSet 7) (b_ppairs_shut_1)) (mPass)
def m_ppairs_shut : MS := mSeq (mSetO 4 (mDn0)) (mSeq (mFor (mItV (mVar 3)) (gTp 2 (gsCons (gSet 5) (gsCons (gSet 6) (gsNil)))) (b_ppairs_shut_0)) (mSeq (mFor (mItV (mVar 3)) (gTp 2 (gsCons (gSet 5) (gsCons (gSet 6) (gsNil)))) (b_ppairs_shut_2)) (mRet (mC (.bl true)))))
def f_ppairs_shut : MF := mFn 8 [] m_ppairs_shut
def m_pleast_holds : MS := mSeq (mAsg (mFz (mCall f_pstarts_of (mCons (mVar 2) (mNil)))) (gSet 5)) (mSeq (mDrop (mFz (mCall f_pheld_menu (mCons (mVar 0) (mCons (mVar 1) (mCons (mVar 5) (mNil))))))) (mSeq (mIfS (mOrT (mNotT (mTest (mBlt bIsi (mCons (mVar 4) (mCons (mC (.raw (.ty "tuple"))) mNil))))) (mOrT (mTest (mOp fNe (mBlt bLen (mCons (mVar 4) (mNil))) (mC (.int 2)))) (mNotT (mTest (mBlt bIsi (mCons (mOp fIx (mVar 4) (mC (.int 0))) (mCons (mC (.raw (.ty "str"))) mNil))))))) (mRet (mC (.bl false))) (mPass)) (mSeq (mIfS (mTest (mOp fEq (mOp fIx (mVar 4) (mC (.int 0))) (mC (.str "least")))) (mRet (mBv (mAndT (mTest (mFz (mCall f_pis_word (mCons (mOp fIx (mVar 4) (mC (.int 1))) (mCons (mBlt bLen (mCons (mVar 1) (mNil))) (mCons (mVar 3) (mNil))))))) (mTest (mOp fEq (mFz (mCall f_pleast (mCons (mVar 0) (mCons (mVar 1) (mCons (mVar 2) (mCons (mVar 3) (mNil))))))) (mVar 4)))))) (mPass)) (mSeq (mIfS (mOrT (mTest (mOp fNe (mOp fIx (mVar 4) (mC (.int 0))) (mC (.str "none")))) (mNotT (mTest (mFz (mCall f_ppairs_right (mCons (mVar 0) (mCons (mVar 1) (mCons (mVar 5) (mCons (mVar 3) (mCons (mOp fIx (mVar 4) (mC (.int 1))) (mNil))))))))))) (mRet (mC (.bl false))) (mPass)) (mSeq (mIfS (mTest (mBlt bAny (mCons (mFz (mLcO (mItV (mOp fIx (mVar 4) (mC (.int 1)))) (.tp [6, 7]) (mYes) (mFz (mCall0 f_pdoes_all (mCons (mVar 7) (mCons (mVar 2) (mNil))))) [6, 7])) (mNil)))) (mRet (mC (.bl false))) (mPass)) (mRet (mFz (mCall f_ppairs_shut (mCons (mVar 0) (mCons (mVar 1) (mCons (mVar 3) (mCons (mOp fIx (mVar 4) (mC (.int 1))) (mNil)))))))))))))
def f_pleast_holds : MF := mFn 8 [] m_pleast_holds
def b_lall_words_0 : MS := mDrop (mLm lmExtend 5 (mCons (mFz (mLcO (mR1 (mCons (mVar 0) (mNil))) (.nm 7) (mYes) (mOp fAdd (mVar 6) (mTup (mCons (mVar 7) (mNil)))) [7])) (mNil)))
def b_lall_words_1 : MS := mSeq (mSetO 5 (mLstO (mNil))) (mSeq (mFor (mItV (mVar 3)) (gSet 6) (b_lall_words_0)) (mSeq (mAsg (mVar 5) (gSet 3)) (mAsg (mOp fAdd (mVar 2) (mVar 3)) (gSet 2))))
def m_lall_words : MS := mSeq (mAsg (mLst (mCons (mTup (mNil)) (mNil))) (gSet 2)) (mSeq (mAsg (mLst (mCons (mTup (mNil)) (mNil))) (gSet 3)) (mSeq (mFor (mR1 (mCons (mVar 1) (mNil))) (gSet 4) (b_lall_words_1)) (mRet (mVar 2))))
def f_lall_words : MF := mFn 8 [] m_lall_words
def b_lone_each_0 : MS := mSetN 2 (mOp fAdd (mGetN2 2 (mTup (mCons (mBlt bLen (mCons (mVar 4) (mNil))) (mCons (mVar 5) (mNil)))) (mLst (mNil))) (mLst (mCons (mVar 4) (mNil)))) (mTup (mCons (mBlt bLen (mCons (mVar 4) (mNil))) (mCons (mVar 5) (mNil))))
def b_lone_each_1 : MS := mSeq (mAsg (mIxN 2 (mTup (mCons (mBlt bLen (mCons (mVar 4) (mNil))) (mCons (mVar 5) (mNil))))) (gSet 6)) (mIfS (mTest (mOp fEq (mOp fIx (mVar 6) (mOp fMod (mVar 1) (mBlt bLen (mCons (mVar 6) (mNil))))) (mVar 4))) (mDrop (mLm lmAppend 3 (mCons (mTup (mCons (mVar 4) (mCons (mVar 5) (mNil)))) (mNil)))) (mPass))
def m_lone_each : MS := mSeq (mSetO 2 (mDn0)) (mSeq (mFor (mItV (mVar 0)) (gTp 2 (gsCons (gSet 4) (gsCons (gSet 5) (gsNil)))) (b_lone_each_0)) (mSeq (mSetO 3 (mLstO (mNil))) (mSeq (mFor (mItV (mVar 0)) (gTp 2 (gsCons (gSet 4) (gsCons (gSet 5) (gsNil)))) (b_lone_each_1)) (mRet (mMove 3)))))
def f_lone_each : MF := mFn 7 [] m_lone_each
def b_law69_0 : MS := mSeq (mAsg (mOp fIx (mFz (mLcW 5 (.tp [26, 19]) (mTest (mOp fEq (mVar 26) (mSl (mVar 6) (mNo) (mPart (mUn fNeg (mC (.int 1))))))) (mVar 19) [26, 19])) (mC (.int 0))) (gSet 18)) (mDrop (mLm lmAppend 5 (mCons (mTup (mCons (mVar 6) (mCons (mFz (mCall f_lbehind (mCons (mVar 2) (mCons (mOp fIx (mVar 3) (mOp fIx (mVar 6) (mUn fNeg (mC (.int 1))))) (mCons (mVar 18) (mNil)))))) (mNil)))) (mNil))))
def b_law69_1 : MS := mSeq (mAsg (mFz (mCall f_pleast_holds (mCons (mVar 2) (mCons (mVar 3) (mCons (mVar 8) (mCons (mVar 14) (mCons (mTup (mCons (mC (.str "least")) (mCons (mVar 6) (mNil)))) (mNil)))))))) (gSet 20)) (mIfS (mOrT (mNotT (mTest (mBlt bIsi (mCons (mVar 20) (mCons (mC (.raw (.ty "bool"))) mNil))))) (mTest (mOp fNe (mVar 20) (mOp fEq (mSl (mVar 9) (mNo) (mPart (mC (.int 1)))) (mLst (mCons (mVar 6) (mNil))))))) (mRet (mC (.bl false))) (mPass))
def m_law69 : MS := mSeq (mAsg (mFz (mCall f_ldraws (mCons (mFz (mCall f_lcell (mCons (mVar 0) (mCons (mC (.int 0)) (mNil))))) (mCons (mC (.int 415)) (mCons (mLst (mCons (mC (.int 6)) (mCons (mC (.int 3)) (mCons (mC (.int 4)) (mCons (mC (.int 3)) (mCons (mC (.int 5)) (mCons (mC (.int 255)) (mCons (mC (.int 96)) (mNil))))))))) (mNil)))))) (gTp 7 (gsCons (gSet 1) (gsCons (gSet 13) (gsCons (gSet 14) (gsCons (gSet 15) (gsCons (gSet 11) (gsCons (gSet 16) (gsCons (gSet 17) (gsNil)))))))))) (mSeq (mAsg (mOp fAdd (mC (.int 1)) (mVar 1)) (gSet 1)) (mSeq (mAsg (mBlt bTuple (mCons (mFz (mLcO (mR1 (mCons (mVar 13) (mNil))) (.nm 22) (mYes) (mFz (mCall0 f_lsome_table (mCons (mFz (mCall0 f_lcell (mCons (mVar 0) (mCons (mOp fAdd (mC (.int 1)) (mVar 22)) (mNil))))) (mCons (mOp fAdd (mC (.int 47)) (mVar 22)) (mNil))))) [22])) (mNil))) (gSet 2)) (mSeq (mAsg (mSl (mFz (mCall f_lmenu (mCons (mVar 0) (mCons (mC (.int 3)) (mCons (mVar 1) (mCons (mVar 13) (mNil))))))) (mNo) (mPart (mC (.int 3)))) (gSet 3)) (mSeq (mAsg (mSl (mFz (mCall f_lstarts (mCons (mVar 0) (mCons (mC (.int 8)) (mCons (mVar 1) (mNil)))))) (mNo) (mPart (mC (.int 3)))) (gSet 4)) (mSeq (mSetO 5 (mLstO (mCons (mTup (mCons (mTup (mNil)) (mCons (mVar 4) (mNil)))) (mNil)))) (mSeq (mFor (mItV (mSl (mFz (mCall f_lall_words (mCons (mBlt bLen (mCons (mVar 3) (mNil))) (mCons (mVar 14) (mNil))))) (mPart (mC (.int 1))) (mNo))) (gSet 6) (b_law69_0)) (mSeq (mSetO 7 (mLcO (mItV (mOp fIx (mIxV 5 (mOp fMod (mVar 17) (mLenV 5))) (mC (.int 1)))) (.nm 21) (mYes) (mOp fIx (mOp fIx (mVar 21) (mC (.int 0))) (mC (.int 0))) [21])) (mSeq (mIfS (mTest (mOp fGt (mVar 15) (mC (.int 0)))) (mSeq (mAsg (mOp fMod (mVar 11) (mLenV 7)) (gSet 11)) (mSetIx 7 (mOp fMod (mOp fAdd (mOp fAdd (mIxV 7 (mVar 11)) (mC (.int 1))) (mVar 16)) (mC (.int 256))) (mVar 11))) (mPass)) (mSeq (mAsg (mBlt bTuple (mCons (mFz (mLcO (mZip (mCons (mVar 4) (mCons (mVar 7) (mNil)))) (.tn [24, 25] 23) (mYes) (mTup (mCons (mVar 24) (mCons (mVar 25) (mCons (mVar 23) (mNil))))) [24, 25, 23])) (mNil))) (gSet 8)) (mSeq (mSetO 9 (mLcO (mItV (mVar 5)) (.tp [6, 19]) (mTest (mFz (mCall0 f_lwanted (mCons (mVar 19) (mCons (mVar 7) (mNil)))))) (mVar 6) [6, 19])) (mSeq (mAsg (mVar 5) (gSet 10)) (mSeq (mIfS (mTest (mOp fEq (mOp fMod (mVar 17) (mC (.int 2))) (mC (.int 1)))) (mAsg (mFz (mCall f_lone_each (mCons (mVar 5) (mCons (mOp fDiv (mVar 17) (mC (.int 2))) (mNil))))) (gSet 10)) (mPass)) (mSeq (mAsg (mOp fAdd (mC (.int 1)) (mOp fMod (mVar 17) (mBlt bLen (mCons (mVar 10) (mNil))))) (gSet 11)) (mSeq (mAsg (mOp fAdd (mOp fAdd (mSl (mVar 10) (mNo) (mPart (mC (.int 1)))) (mRevA (mSl (mVar 10) (mPart (mVar 11)) (mNo)))) (mSl (mVar 10) (mPart (mC (.int 1))) (mPart (mVar 11)))) (gSet 12)) (mSeq (mIfS (mTest (mOp fNe (mFz (mCall f_pleast_holds (mCons (mVar 2) (mCons (mVar 3) (mCons (mVar 8) (mCons (mVar 14) (mCons (mTup (mCons (mC (.str "none")) (mCons (mBlt bTuple (mCons (mVar 12) (mNil))) (mNil)))) (mNil)))))))) (mOp fEq (mBlt bLen (mCons (mVar 9) (mNil))) (mC (.int 0))))) (mRet (mC (.bl false))) (mPass)) (mSeq (mFor (mItV (mSlV 5 (mNo) (mPart (mC (.int 12))))) (gTp 2 (gsCons (gSet 6) (gsCons (gSet 19) (gsNil)))) (b_law69_1)) (mRet (mC (.bl true)))))))))))))))))))
def f_law69 : MF := mFn 27 [] m_law69
theorem lcell_ok (ns : List Int) (k : Nat) : ∃ v : Int, f_lcell [.scr ns, .int k] = .ok (.int v, []) := by
  unfold f_lcell
  by_cases h : (k : Int) < ns.length
  · have h' : k < ns.length := by omega
    refine ⟨ns[k], mFn_ok ?_⟩
    simp [m_lcell, h', atI_ge]
  · by_cases h0 : ns.length = 0
    · have h' : ns = [] := List.length_eq_zero_iff.mp h0
      subst h'
      refine ⟨7919 * (k + 1), mFn_ok ?_⟩
      simp [m_lcell, mulOk_l]
    · have h' : ¬ k < ns.length := by omega
      have hp : (0 : Int) < ns.length := by omega
      have e := fmod_ge' (a := k) hp
      have e2 := fmod_lt' (a := k) hp
      have h2 : ((k : Int).fmod ns.length).toNat < ns.length := by omega
      have h3 : ¬ ns = [] := by intro h; subst h; exact h0 rfl
      have h4 : ¬ ((ns.length : Int) = 0) := by omega
      refine ⟨ns[((k : Int).fmod ns.length).toNat] + 104729 * k, mFn_ok ?_⟩
      simp [m_lcell, h', h3, h4, atI_ge e, h2, mulOk_l]
theorem lmixed_ok (a b c : Int) : ∃ v : Int, f_lmixed [.int a, .int b, .int c] = .ok (.int v, []) := by
  unfold f_lmixed
  have e := fmod_ge' (a := b) (b := 8) (by decide)
  have e2 := fmod_lt' (a := b) (b := 8) (by decide)
  generalize hi : b.fmod 8 = i at e e2
  obtain ⟨p, hp, hp1, hp2⟩ : ∃ p : Int, atI [MV.int 2147483629, .int 2147483587, .int 2147483579, .int 2147483563, .int 2147483549, .int 2147483543, .int 2147483497, .int 2147483489] i = some (.int p) ∧ 0 < p ∧ p < 2147483648 := by
    obtain ⟨j, rfl⟩ := Int.eq_ofNat_of_zero_le e
    match j, e2 with
    | 0, _ => exact ⟨_, rfl, by decide, by decide⟩
    | 1, _ => exact ⟨_, rfl, by decide, by decide⟩
    | 2, _ => exact ⟨_, rfl, by decide, by decide⟩
    | 3, _ => exact ⟨_, rfl, by decide, by decide⟩
    | 4, _ => exact ⟨_, rfl, by decide, by decide⟩
    | 5, _ => exact ⟨_, rfl, by decide, by decide⟩
    | 6, _ => exact ⟨_, rfl, by decide, by decide⟩
    | 7, _ => exact ⟨_, rfl, by decide, by decide⟩
    | j + 8, h => exact absurd h (by omega)
  have b1 : ∀ x : Int, 0 ≤ x.fmod 2147483647 ∧ x.fmod 2147483647 < 2147483647 := fun x => ⟨fmod_ge' (by decide), fmod_lt' (by decide)⟩
  have b2 : ∀ x : Int, (x.fmod 2147483647).natAbs < 18446744073709551616 := fun x => by have := b1 x; omega
  have b3 : ∀ x : Int, mulOk (x.fmod 2147483647) 1000000007 = true := fun x => mulOk_r (by decide) (by decide)
  have h : ∃ v ρ, m_lmixed [some (.int a), some (.int b), some (.int c), none, none, none] = .ok (.rt (.int v), ρ) := by
    simp [m_lmixed, szOk_small, mulOk_l, hi, hp, hp1, Int.ne_of_gt hp1, b2, b3]
  obtain ⟨v, ρ, h⟩ := h
  exact ⟨v, mFn_ok ⟨ρ, h⟩⟩
def DrawsAre (ws ds : List Int) : Prop := ds.length = ws.length ∧ ∀ i (h : i < ws.length) (h' : i < ds.length), 0 ≤ ds[i] ∧ ds[i] < ws[i]
theorem ldraws_ok (cell salt : Int) (ws : List Int) (hn : ws.length < 1000) (hw : ∀ w ∈ ws, 0 < w ∧ divOk w = true) : ∃ ds : List Int, DrawsAre ws ds ∧ f_ldraws [.int cell, .int salt, .lst (ws.map .int)] = .ok (.own (ds.map .int), []) := by
  have key : ∀ l0 : Int, ∃ ρ', mLoop (gSet 5) b_ldraws_0 (rngM 0 1 ws.length) [some (.int cell), some (.int salt), some (.lst (ws.map .int)), some (.own []), some (.int l0), none] = .ok (.nx, ρ') ∧ ∃ ds l v, DrawsAre (ws.take ws.length) ds ∧ ρ' = [some (.int cell), some (.int salt), some (.lst (ws.map .int)), some (.own (ds.map .int)), some (.int l), v] := by
    intro l0
    refine loop_rng (fun i ρ => ∃ ds l v, DrawsAre (ws.take i) ds ∧ ρ = [some (.int cell), some (.int salt), some (.lst (ws.map .int)), some (.own (ds.map .int)), some (.int l), v]) ⟨[], l0, none, ⟨by simp, by simp⟩, rfl⟩ ?_
    rintro i ρ hi ⟨ds, l, v, ⟨hd1, hd2⟩, rfl⟩
    have hwi := hw ws[i] (List.getElem_mem hi)
    have hl : ds.length = i := by rw [hd1, List.length_take]; omega
    have ix : atI (ws.map MV.int) (i : Int) = some (.int ws[i]) := by rw [atI_ge (by omega)]; simp [hi]
    have ds' : ∀ d : Int, DrawsAre (ws.take (i + 1)) (ds ++ [d.fmod ws[i]]) := by
      intro d
      refine ⟨by simp [hl, List.length_take]; omega, fun j h h' => ?_⟩
      have hj : j ≤ i := by rw [List.length_take] at h; omega
      rw [List.getElem_take]
      by_cases e : j = i
      · subst e
        rw [List.getElem_append_right (by omega)]
        simp [hl]
        exact ⟨fmod_ge' hwi.1, fmod_lt' hwi.1⟩
      · have := hd2 j (by rw [List.length_take]; omega) (by omega)
        rw [List.getElem_append_left (by omega)]
        rw [List.getElem_take] at this
        exact this
    have hsz : ds.length < sizeLine := by rw [sizeLine_eq]; omega
    by_cases hp : 0 < l
    · refine ⟨[some (.int cell), some (.int salt), some (.lst (ws.map .int)), some (.own (ds.map .int)), some (.int l), some (.int i)], [some (.int cell), some (.int salt), some (.lst (ws.map .int)), some (.own ((ds ++ [l.fmod ws[i]]).map .int)), some (.int (l.fdiv ws[i])), some (.int i)], ?_, .inl ?_, ⟨_, _, _, ds' l, rfl⟩⟩
      · simp
      · simp [b_ldraws_0, hp, isOwn, ix, Int.ne_of_gt hwi.1, hsz, hwi.2]
    · obtain ⟨m, hm⟩ := lmixed_ok cell i salt
      refine ⟨[some (.int cell), some (.int salt), some (.lst (ws.map .int)), some (.own (ds.map .int)), some (.int l), some (.int i)], [some (.int cell), some (.int salt), some (.lst (ws.map .int)), some (.own ((ds ++ [m.fmod ws[i]]).map .int)), some (.int l), some (.int i)], ?_, .inl ?_, ⟨_, _, _, ds' m, rfl⟩⟩
      · simp
      · simp [b_ldraws_0, hp, isOwn, ix, hm, Int.ne_of_gt hwi.1, hsz]
  have e0 : inR (ws.length : Int) = true := inR_of (by omega) (by omega)
  unfold f_ldraws
  by_cases hc : (1000000000000000000 : Int) ≤ (if cell < 0 then -cell else cell)
  · obtain ⟨ρ', h, ds, l, v, hd, rfl⟩ := key (if cell < 0 then -cell else cell)
    refine ⟨ds, by simpa using hd, mFn_ok ?_⟩
    · simp [m_ldraws, szOk_small, hc, e0, h]
  · obtain ⟨ρ', h, ds, l, v, hd, rfl⟩ := key 0
    refine ⟨ds, by simpa using hd, mFn_ok ?_⟩
    · simp [m_ldraws, szOk_small, hc, e0, h]
theorem draws_nil {ds : List Int} : DrawsAre [] ds ↔ ds = [] := by
  constructor
  · intro h; exact List.length_eq_zero_iff.mp h.1
  · rintro rfl; exact ⟨rfl, by simp⟩
theorem draws_cons {w : Int} {ws ds : List Int} : DrawsAre (w :: ws) ds ↔ ∃ d r, ds = d :: r ∧ (0 ≤ d ∧ d < w) ∧ DrawsAre ws r := by
  constructor
  · intro h
    match ds, h with
    | [], h => exact absurd h.1 (by simp)
    | d :: r, h =>
      refine ⟨d, r, rfl, h.2 0 (by simp) (by simp), by simpa using h.1, fun i h1 h2 => ?_⟩
      exact h.2 (i + 1) (by simpa using h1) (by simpa using h2)
  · rintro ⟨d, r, rfl, h1, h2⟩
    refine ⟨by simpa using h2.1, fun i a b => ?_⟩
    match i with
    | 0 => exact h1
    | i + 1 => exact h2.2 i (by simpa using a) (by simpa using b)
theorem divOk_small {w : Int} (h : 0 < w) (h2 : w < 2 ^ 29) : divOk w = true := by
  unfold divOk
  have : w.natAbs < 1073741824 := by omega
  simp [this]; omega
def least (n : Nat) (sg : Str) : Int := if sg = "none" then 0 else if sg = "end" then 1 - 10 ^ n else -5 * 10 ^ (n - 1)
def most (n : Nat) (sg : Str) : Int := if sg = "tens" then 5 * 10 ^ (n - 1) - 1 else 10 ^ n - 1
section
variable {kd sg : Str} {n : Nat} {p : MV}
theorem at1 {a b c d : MV} : atI [a, b, c, d] 1 = some b := rfl
theorem at2 {a b c d : MV} : atI [a, b, c, d] 2 = some c := rfl
end
section
variable {kd sg : Str} {n : Nat} {p : MV}
theorem map_set {α β : Type} (f : α → β) (l : List α) (k : Nat) (v : α) : (l.set k v).map f = (l.map f).set k (f v) := List.map_set ..
end
theorem ixN_at {k : Nat} {i : Int} (h : 0 ≤ i ∧ i < k) : ixN k i = some i.toNat := by
  unfold ixN
  rw [if_pos (by omega), if_pos (by omega)]
def fB (fr : Nat) (ws : List Str) (rs : List MV) (tab : Str → MV) : List (Str × MV) := [("rows", .own rs), ("tables", .own (ws.map tab)), ("worths", .own (ws.map MV.fnc)), ("free", .int fr)]
def Bo (fr : Nat) (ws : List Str) (rs : List MV) (tab : Str → MV) : MV := .obj "Builder" (fB fr ws rs tab)
section
variable {fr : Nat} {ws : List Str} {rs : List MV} {tab : Str → MV} {ρ : Env} {r x y z : Option MV}
@[simp] theorem Bo_held : (Bo fr ws rs tab).held = true := nr rfl
@[simp] theorem Bo_fold : MV.obj (Str.ofString "Builder") (fB fr ws rs tab) = Bo fr ws rs tab := nr rfl
@[simp] theorem lk_rows : (fB fr ws rs tab).lookup (Str.ofString "rows") = some (.own rs) := nr rfl
@[simp] theorem lk_tables : (fB fr ws rs tab).lookup (Str.ofString "tables") = some (.own (ws.map tab)) := nr rfl
@[simp] theorem lk_worths : (fB fr ws rs tab).lookup (Str.ofString "worths") = some (.own (ws.map MV.fnc)) := nr rfl
@[simp] theorem lk_free : (fB fr ws rs tab).lookup (Str.ofString "free") = some (.int fr) := nr rfl
@[simp] theorem lk_cell : (fB fr ws rs tab).lookup (Str.ofString "cell") = none := nr rfl
@[simp] theorem lk_put : (fB fr ws rs tab).lookup (Str.ofString "put") = none := nr rfl
@[simp] theorem lk_row : (fB fr ws rs tab).lookup (Str.ofString "row") = none := nr rfl
@[simp] theorem lk_look : (fB fr ws rs tab).lookup (Str.ofString "look") = none := nr rfl
@[simp] theorem lk_copied : (fB fr ws rs tab).lookup (Str.ofString "copied") = none := nr rfl
@[simp] theorem lk_looked : (fB fr ws rs tab).lookup (Str.ofString "looked") = none := nr rfl
@[simp] theorem lk_ended : (fB fr ws rs tab).lookup (Str.ofString "ended") = none := nr rfl
@[simp] theorem lk_program : (fB fr ws rs tab).lookup (Str.ofString "program") = none := nr rfl
@[simp] theorem lk_back_to : (fB fr ws rs tab).lookup (Str.ofString "back_to") = none := nr rfl
@[simp] theorem put_rows {zs : List MV} : putM (Str.ofString "rows") (.own zs) (fB fr ws rs tab) = fB fr ws zs tab := nr rfl
@[simp] theorem put_free {k : Nat} : putM (Str.ofString "free") (.int k) (fB fr ws rs tab) = fB k ws rs tab := nr rfl
@[simp] theorem put_free1 : putM (Str.ofString "free") (.int ((fr : Int) + 1)) (fB fr ws rs tab) = fB (fr + 1) ws rs tab := nr rfl
@[simp] theorem fB_len : (fB fr ws rs tab).length = 4 := nr rfl
def lkW (ws : List Str) (w : Str) : List Str := if w ∈ ws then ws else ws ++ [w]
def lkI (ws : List Str) (w : Str) : Nat := (lkW ws w).findIdx fun z => decide (z = w)
end
def w01 (p : Bool) : Nat := if p then 1 else 0
def wtab : List (Str × (Nat → Nat)) := [
  ("sign_below", fun b => w01 (decide (b % 16 = 11 ∨ b % 16 = 13))),
  ("five_on", fun b => w01 (decide (4 < b))),
  ("ten_or_none", fun b => 10 * w01 (decide (0 < b))),
  ("nine_less", fun b => if 9 < b ∧ b < 20 then 19 - b else b),
  ("ahead_of_last", fun b => b / 10),
  ("last_figure", fun b => b % 10),
  ("high_half", fun b => b / 16),
  ("low_half", fun b => b % 16),
  ("one_or_none", fun b => w01 (decide (0 < b))),
  ("half_up", fun b => b % 16 * 16),
  ("one_of_two", fun b => w01 (decide (b % 4 = 1 ∨ b % 4 = 2))),
  ("not_all", fun b => w01 (decide (b < 255))),
  ("none_or_all", fun b => 255 * w01 (decide (b = 0))),
  ("lacking", fun b => (9 + 10 * 26 - b) % 10),
  ("fill", fun b => 255 * (1 - b / 128)),
  ("top_two", fun b => b / 128),
  ("other_twos", fun b => 255 - b),
  ("ten_low", fun b => 10 * b % 256),
  ("ten_high", fun b => 10 * b / 256),
  ("six_on", fun b => w01 (decide (5 < b))),
  ("product_byte", fun b => b / 16 * (b % 16)),
  ("order_byte", fun b => if b % 4 = 0 then 1 else if b % 4 = 1 then 2 else if b % 4 = 2 then 1 else 0),
  ("one_of_none", fun b => w01 (decide (b = 0))),
  ("lowest_two", fun b => b % 2),
  ("all_or_none", fun b => 255 * w01 (decide (0 < b)))]
def worthV (w : Str) (b : Nat) : Nat := match wtab.lookup w with | some g => g b | none => 0
def tabW (w : Str) : MV := .tup ((List.range 256).map fun b => .int (worthV w b))
def okW (f : MF) (g : Nat → Nat) : Bool := (List.range 256).all fun b => match f [.int b] with | .ok (.int v, []) => v == (g b : Int) | _ => false
inductive Rw where
  | put (a v : Nat) | copy (a b : Nat) | look (a k : Nat) | add (a b : Nat) | addc (a b : Nat) | and_ (a b : Nat) | or_ (a b : Nat) | left (a : Nat) | right (a : Nat) | mark (v : Nat)
def enR : Rw → MV
  | .put a v => .tup [.str "put", .int a, .int v]
  | .copy a b => .tup [.str "copy", .int a, .int b]
  | .look a k => .tup [.str "look", .int a, .int k]
  | .add a b => .tup [.str "add", .int a, .int b]
  | .addc a b => .tup [.str "addc", .int a, .int b]
  | .and_ a b => .tup [.str "and", .int a, .int b]
  | .or_ a b => .tup [.str "or", .int a, .int b]
  | .left a => .tup [.str "left", .int a]
  | .right a => .tup [.str "right", .int a]
  | .mark v => .tup [.str "mark", .int v]
def cg (c : List Nat) (i : Nat) : Nat := c.getD i 0
def stepL (tb : Nat → Nat → Nat) : Rw → List Nat × Nat → List Nat × Nat
  | .put a v, s => (s.1.set a v, s.2)
  | .copy a b, s => (s.1.set a (cg s.1 b), s.2)
  | .look a k, s => (s.1.set a (tb k (cg s.1 a)), s.2)
  | .add a b, s => (s.1.set a ((cg s.1 a + cg s.1 b) % 256), (cg s.1 a + cg s.1 b) / 256)
  | .addc a b, s => (s.1.set a ((cg s.1 a + cg s.1 b + s.2) % 256), (cg s.1 a + cg s.1 b + s.2) / 256)
  | .and_ a b, s => (s.1.set a (cg s.1 a &&& cg s.1 b), s.2)
  | .or_ a b, s => (s.1.set a (cg s.1 a ||| cg s.1 b), s.2)
  | .left a, s => (s.1.set a ((2 * cg s.1 a + s.2) % 256), (2 * cg s.1 a + s.2) / 256)
  | .right a, s => (s.1.set a ((cg s.1 a + 256 * s.2) / 2), (cg s.1 a + 256 * s.2) % 2)
  | .mark v, s => (s.1, v)
def runL (tb : Nat → Nat → Nat) (rs : List Rw) (s : List Nat × Nat) : List Nat × Nat := rs.foldl (fun s r => stepL tb r s) s
def encC (c : List Nat) : List MV := c.map fun d : Nat => MV.int d
theorem encC_at {c : List Nat} {i : Nat} (h : i < c.length) : atI (encC c) (i : Int) = some (.int (cg c i : Nat)) := by
  rw [atI_ge (by omega)]
  simp [encC, cg, h]
theorem encC_set {ρ : Env} {c : List Nat} {i v : Nat} (h : ρ[1]? = some (some (.own (encC c)))) (hi : i < c.length) : setIxM 1 (.int v) (.int i) ρ = .ok (.nx, ρ.set 1 (some (.own (encC (c.set i v))))) := by
  rw [setIxM_o h (j := i) (by unfold encC; rw [List.length_map]; exact (ixN_at (k := c.length) (i := (i : Int)) ⟨by omega, by omega⟩).trans (by simp))]
  unfold encC
  rw [List.map_set]
def TabsAre (tb : Nat → Nat → Nat) (nt : Nat) (tabs : List MV) : Prop := ∀ k, k < nt → atI tabs (k : Int) = some (.tup ((List.range 256).map fun b => .int (tb k b)))
theorem tab_at {g : Nat → Nat} {v : Nat} (h : v < 256) : atI ((List.range 256).map fun b => MV.int (g b)) (v : Int) = some (.int (g v)) := by
  rw [atI_ge (by omega)]
  simp [h]
theorem bitAnd_n (a b : Nat) : Builtin.bitAnd (a : Int) (b : Int) = ((a &&& b : Nat) : Int) := by
  unfold Builtin.bitAnd
  rw [decide_eq_true (by omega), decide_eq_true (by omega)]
  simp
theorem bitOr_n (a b : Nat) : Builtin.bitOr (a : Int) (b : Int) = ((a ||| b : Nat) : Int) := by
  rw [Bits.bitOr_pp (by omega) (by omega)]
  simp
theorem ixV_own {ρ : Env} {c : List Nat} {i : Nat} (h : ρ[1]? = some (some (.own (encC c)))) (hi : i < c.length) : ixV ρ 1 (.int i) = some (.int (cg c i : Nat)) := by
  unfold ixV
  rw [h]
  exact encC_at hi
def Cells (c : List Nat) : Prop := c.length = 256 ∧ ∀ i, cg c i < 256
def TabLt (tb : Nat → Nat → Nat) (nt : Nat) : Prop := ∀ k v, k < nt → v < 256 → tb k v < 256
theorem cg_set {c : List Nat} {a v i : Nat} : cg (c.set a v) i = if i = a ∧ a < c.length then v else cg c i := by
  unfold cg
  rw [List.getD_eq_getElem?_getD, List.getD_eq_getElem?_getD, List.getElem?_set]
  by_cases h : a = i
  · subst h
    by_cases h2 : a < c.length
    · simp [h2]
    · simp [h2, List.getElem?_eq_none (Nat.le_of_not_lt h2)]
  · have : ¬ (i = a) := fun e => h e.symm
    simp [h, this]
theorem Cells.set {c : List Nat} (h : Cells c) {a v : Nat} (hv : v < 256) : Cells (c.set a v) := by
  refine ⟨by rw [List.length_set]; exact h.1, fun i => ?_⟩
  rw [cg_set]
  split
  · exact hv
  · exact h.2 i
inductive Ab where
  | r (x : Rw) | lk (c : Nat) (w : Str)
def layA (s : List Str × List Rw) : Ab → List Str × List Rw
  | .r x => (s.1, s.2 ++ [x])
  | .lk c w => (lkW s.1 w, s.2 ++ [.look c (lkI s.1 w)])
def lays (as : List Ab) (s : List Str × List Rw) : List Str × List Rw := as.foldl layA s
def okAb : Ab → Bool
  | .r _ => true
  | .lk _ w => fnNames.contains w
def Gd (s : List Str × List Rw) (k : Nat) : Prop := s.1.Nodup ∧ (∀ z ∈ s.1, z ∈ fnNames) ∧ s.2.length + k < 16777216
theorem nodup_le : ∀ {l m : List Str}, l.Nodup → (∀ z ∈ l, z ∈ m) → l.length ≤ m.length
  | [], m, _, _ => Nat.zero_le _
  | a :: l, m, h, hs => by
    obtain ⟨h1, h2⟩ := List.nodup_cons.mp h
    have ha := hs a (by simp)
    have ih := @nodup_le l (m.erase a) h2 (fun z hz => by
      have ne : z ≠ a := fun e => h1 (by rw [← e]; exact hz)
      exact (List.mem_erase_of_ne ne).mpr (hs z (List.mem_cons_of_mem _ hz)))
    rw [List.length_erase_of_mem ha] at ih
    have := List.length_pos_of_mem ha
    simp; omega
theorem Gd.len {s : List Str × List Rw} {k : Nat} (h : Gd s k) : s.1.length < 100 := by
  have h1 : s.1.length ≤ fnNames.length := nodup_le h.1 fun z hz => h.2.1 z hz
  have h2 : fnNames.length < 100 := by decide +kernel
  omega
theorem Gd.less {s : List Str × List Rw} {k j : Nat} (h : Gd s k) (hj : j ≤ k) : Gd s j := ⟨h.1, h.2.1, by have := h.2.2; omega⟩
theorem layA_len (s : List Str × List Rw) (a : Ab) : (layA s a).2.length = s.2.length + 1 := by cases a <;> simp [layA]
theorem lkW_nodup {ws : List Str} {w : Str} (h : ws.Nodup) : (lkW ws w).Nodup := by
  unfold lkW
  split
  · exact h
  · rename_i hn
    rw [List.nodup_append]
    refine ⟨h, by simp, ?_⟩
    intro a ha b hb e
    rw [List.mem_singleton.mp hb] at e
    exact hn (e ▸ ha)
theorem Gd.step {s : List Str × List Rw} {k : Nat} (h : Gd s (k + 1)) {a : Ab} (ha : okAb a = true) : Gd (layA s a) k := by
  refine ⟨?_, ?_, by rw [layA_len]; have := h.2.2; omega⟩
  · cases a with
    | r x => exact h.1
    | lk c w => exact lkW_nodup h.1
  · cases a with
    | r x => exact h.2.1
    | lk c w =>
      intro z hz
      have hw : w ∈ fnNames := List.contains_iff_mem.mp ha
      simp only [layA] at hz
      unfold lkW at hz
      split at hz
      · exact h.2.1 z hz
      · rcases List.mem_append.mp hz with hz | hz
        · exact h.2.1 z hz
        · rw [List.mem_singleton.mp hz]; exact hw
theorem Gd.lays {k : Nat} : ∀ {as : List Ab} {s : List Str × List Rw}, Gd s (as.length + k) → as.all okAb = true → Gd (lays as s) k
  | [], s, h, _ => by simpa [Tm.lays] using h
  | a :: as, s, h, ha => by
    rw [List.all_cons, Bool.and_eq_true] at ha
    have h1 : Gd (layA s a) (as.length + k) := Gd.step (h.less (by simp; omega)) ha.1
    show Gd (Tm.lays as (layA s a)) k
    exact Gd.lays h1 ha.2
def bS (fr : Nat) (s : List Str × List Rw) : MV := Bo fr s.1 (s.2.map enR) tabW
section
variable {fr : Nat} {s : List Str × List Rw} {ρ : Env} {x y z : Option MV}
@[simp] theorem bS_held : (bS fr s).held = true := nr rfl
end
theorem nm (w : Str) (h : fnNames.contains w = true) : w ∈ fnNames := List.contains_iff_mem.mp h
def cells (fr many : Nat) : List Nat := (List.range many).map (fr + ·)
def w3 : List MV := [.str "put", .str "copy", .str "add", .str "addc", .str "and", .str "or"]
def w2 : List MV := [.str "left", .str "right"]
theorem cbE_b2 {f : MF} {x v : MV} {ys : List MV} {args : List BA} {ρ : Env} {r q y : Option MV} (h : x.held = true) (hf : fill args (r :: q :: some x :: ρ) = some ys) (hi : idxB args = []) (en : f (x :: ys) = .ok (v, [y])) : cbE f (.b 2 :: args) (r :: q :: some x :: ρ) = .ok (v, r :: q :: y :: ρ) := by
  rw [cbE_ap]
  have e : fill (.b 2 :: args) (r :: q :: some x :: ρ) = some (x :: ys) := by
    rw [fill_b, hf]
    simp [h]
  rw [e]
  show (match f (x :: ys) with | .ok (v, os) => _ | .exc e os => _ | .stuck => _) = _
  rw [en]
  rw [idxB_b, hi]
  rfl
section
variable {f : MF} {fr fr' : Nat} {s s' : List Str × List Rw} {a b c d v : MV}
theorem cd1 (en : f [bS fr s, a] = .ok (v, [some (bS fr' s')])) (r q : Option MV) (ρ : Env) : cbE f [.b 2, .v a] (r :: q :: some (bS fr s) :: ρ) = .ok (v, r :: q :: some (bS fr' s') :: ρ) := cbE_b2 rfl rfl rfl en
theorem cd2 (en : f [bS fr s, a, b] = .ok (v, [some (bS fr' s')])) (r q : Option MV) (ρ : Env) : cbE f [.b 2, .v a, .v b] (r :: q :: some (bS fr s) :: ρ) = .ok (v, r :: q :: some (bS fr' s') :: ρ) := cbE_b2 rfl rfl rfl en
theorem cd3 (en : f [bS fr s, a, b, c] = .ok (v, [some (bS fr' s')])) (r q : Option MV) (ρ : Env) : cbE f [.b 2, .v a, .v b, .v c] (r :: q :: some (bS fr s) :: ρ) = .ok (v, r :: q :: some (bS fr' s') :: ρ) := cbE_b2 rfl rfl rfl en
theorem cd4 (en : f [bS fr s, a, b, c, d] = .ok (v, [some (bS fr' s')])) (r q : Option MV) (ρ : Env) : cbE f [.b 2, .v a, .v b, .v c, .v d] (r :: q :: some (bS fr s) :: ρ) = .ok (v, r :: q :: some (bS fr' s') :: ρ) := cbE_b2 rfl rfl rfl en
end
structure Bs (L : List Str) : Prop where
  ah : ("ahead_of_last" : Str) ∈ L
  la : ("last_figure" : Str) ∈ L
  ni : ("nine_less" : Str) ∈ L
  hi : ("high_half" : Str) ∈ L
  lo : ("low_half" : Str) ∈ L
  up : ("half_up" : Str) ∈ L
  te : ("ten_or_none" : Str) ∈ L
  fi : ("five_on" : Str) ∈ L
  on : ("one_or_none" : Str) ∈ L
  be : ("sign_below" : Str) ∈ L
  tw : ("one_of_two" : Str) ∈ L
theorem ok2 {a b : Nat} (ha : a < 256) (hb : b < 256) : (decide (a < 256) && decide (b < 256)) = true := by rw [decide_eq_true ha, decide_eq_true hb]; rfl
theorem Gd.go {s : List Str × List Rw} {N : Nat} {as : List Ab} (h : Gd s N) (ok : as.all okAb = true) (k : Nat) (hl : as.length + k ≤ N) : Gd (Tm.lays as s) k := Gd.lays (h.less hl) ok
def dl : Nat → Nat → List Nat
  | 0, _ => []
  | k + 1, n => n % 256 :: dl k (n / 256)
structure TwW (L : List Str) : Prop where
  al : ("all_or_none" : Str) ∈ L
  no : ("none_or_all" : Str) ∈ L
  ot : ("other_twos" : Str) ∈ L
  th : ("ten_high" : Str) ∈ L
  tl : ("ten_low" : Str) ∈ L
  fi : ("fill" : Str) ∈ L
  na : ("not_all" : Str) ∈ L
  on : ("one_or_none" : Str) ∈ L
structure Ls (L : List Str) : Prop where
  ah : ("ahead_of_last" : Str) ∈ L
  la : ("last_figure" : Str) ∈ L
  ni : ("nine_less" : Str) ∈ L
  hi : ("high_half" : Str) ∈ L
  lo : ("low_half" : Str) ∈ L
  te : ("ten_or_none" : Str) ∈ L
  fi : ("five_on" : Str) ∈ L
  be : ("sign_below" : Str) ∈ L
def partsT : List (Str × MV) := [("look", .str "ct"), ("mark", .str "m"), ("put", .str "cb"), ("copy", .str "cc"), ("add", .str "cc"), ("addc", .str "cc"), ("and", .str "cc"), ("or", .str "cc"), ("left", .str "c"), ("right", .str "c")]
theorem parts_due_eq (wd : Str) : f_pparts_due [.str wd] = .ok ((partsT.lookup wd).getD .non, []) := by
  refine mFn_ok ?_
  have e : partsT.lookup wd = ([(("look" : Str), (MV.str "ct")), ("mark", (.str "m"))].lookup wd).or ([(("put" : Str), (MV.str "cb")), ("copy", (.str "cc")), ("add", (.str "cc")), ("addc", (.str "cc")), ("and", (.str "cc")), ("or", (.str "cc")), ("left", (.str "c")), ("right", (.str "c"))].lookup wd) := List.lookup_append (l₁ := [(("look" : Str), (MV.str "ct")), ("mark", (.str "m"))])
  unfold m_pparts_due
  generalize hA : [(("look" : Str), (MV.str "ct")), ("mark", (.str "m"))] = A at *
  generalize hB : [(("put" : Str), (MV.str "cb")), ("copy", (.str "cc")), ("add", (.str "cc")), ("addc", (.str "cc")), ("and", (.str "cc")), ("or", (.str "cc")), ("left", (.str "c")), ("right", (.str "c"))] = B at *
  rw [e]
  cases hl : A.lookup wd with
  | none => simp [mKin, mKget, hl]
  | some v => simp [mKin, mKix, hl]
def bndOf (N nt : Int) (k : Str) : Int := if k = "c" then N else if k = "b" then 256 else if k = "t" then nt else 2
def kindL : List Str := ["c", "b", "t", "m"]
theorem bnd_at {N nt : Int} {k : Str} (h : k ∈ kindL) : fDix (.dct [.inr "c", .inr "b", .inr "t", .inr "m"] [.int N, .int 256, .int nt, .int 2]) (.str k) = some (.int (bndOf N nt k)) := by
  simp only [kindL, List.mem_cons, List.not_mem_nil, or_false] at h
  rcases h with rfl | rfl | rfl | rfl <;> rfl
def inB (N nt : Int) (p : Int × Str) : Bool := decide (0 ≤ p.1) && decide (p.1 < bndOf N nt p.2)
theorem bls_map {α : Type} (f : α → Bool) : ∀ l : List α, blsOf (l.map fun p => .bl (f p)) = some (l.map f)
  | [] => rfl
  | p :: l => by
    have := bls_map f l
    simp [blsOf, this]
theorem ball_map {α : Type} (f : α → Bool) (l : List α) : bAll [.lst (l.map fun p => .bl (f p))] = some (.bl (l.all f)) := by
  show (blsOf _).map _ = _
  rw [bls_map]
  simp
theorem zip_items : ∀ (xs : List Int) (ks : List Str), zipM (xs.map .int) (ks.map .str) = (xs.zip ks).map fun p => .tup [.int p.1, .str p.2]
  | [], _ => rfl
  | _ :: _, [] => rfl
  | x :: xs, k :: ks => by
    have := zip_items xs ks
    unfold zipM at *
    rw [List.map_cons, List.map_cons, List.zipWith_cons_cons, this]; rfl
theorem is_row_due {wd t : Str} {ks : List Str} (N nt : Int) (xs : List Int) (hp : partsT.lookup wd = some (.str t)) (ht : signsM t = ks.map .str) (hl : bLen [.str t] = some (.int ks.length)) (hk : ∀ k ∈ ks, k ∈ kindL) (hx : xs.length < 1000) :
    f_pis_row [.tup (.str wd :: xs.map .int), .int N, .int nt] = .ok (.bl (decide (xs.length = ks.length) && (xs.zip ks).all (inB N nt)), []) := by
  refine mFn_ok ?_
  have pd := parts_due_eq wd
  rw [hp] at pd
  simp only [Option.getD_some] at pd
  have sz : szOk (xs.length + 1) = true := szOk_small (by omega)
  by_cases hn : xs.length = ks.length
  · have lc := mLcO_map (it := mZip (mCons (mSl (mVar 0) (mPart (mC (.int 1))) (mNo)) (mCons (mVar 3) (mNil)))) (g := .tp [5, 6]) (e := mChain fLe fLt (mC (.int 0)) (mVar 5) (mOp fDix (mVar 4) (mVar 6))) (vs := [5, 6])
      (ρ := [some (.tup (.str wd :: xs.map .int)), some (.int N), some (.int nt), some (.str t), some (.dct [.inr "c", .inr "b", .inr "t", .inr "m"] [.int N, .int 256, .int nt, .int 2]), none, none])
      (ρ1 := [some (.tup (.str wd :: xs.map .int)), some (.int N), some (.int nt), some (.str t), some (.dct [.inr "c", .inr "b", .inr "t", .inr "m"] [.int N, .int 256, .int nt, .int 2]), none, none])
      (xs := (xs.zip ks).map fun p => .tup [.int p.1, .str p.2]) (fun z => match z with | .tup [.int a, .str k] => .bl (inB N nt (a, k)) | _ => .non) (by simp [cutM_from, ht, zip_items]) (by simp [perAt]) (by
        intro z hz
        obtain ⟨p, hp2, rfl⟩ := List.mem_map.mp hz
        have hb := bnd_at (N := N) (nt := nt) (hk p.2 (List.of_mem_zip hp2).2)
        generalize ([.inr "c", .inr "b", .inr "t", .inr "m"] : List Key) = DK at *
        generalize [MV.int N, .int 256, .int nt, .int 2] = DV at *
        refine ⟨_, rfl, ?_, by simp [wipeM], by simp [wipeM]⟩
        simp only [inB]
        by_cases h0 : 0 ≤ p.1
        · simp [wipeM, hb, h0]
        · simp [wipeM, hb, h0]) (by rw [sizeLine_eq, List.length_map, List.length_zip]; omega)
    rw [List.map_map] at lc
    have e2 : ((xs.zip ks).map ((fun z : MV => match z with | .tup [.int a, .str k] => MV.bl (inB N nt (a, k)) | _ => .non) ∘ fun p : Int × Str => MV.tup [.int p.1, .str p.2])) = (xs.zip ks).map fun p => MV.bl (inB N nt p) := rfl
    rw [e2] at lc
    have ba := ball_map (inB N nt) (xs.zip ks)
    have hx2 : xs.length = ks.length := hn
    have nd : List.Nodup [(.inr "c" : Key), .inr "b", .inr "t", .inr "m"] := by decide
    generalize (xs.zip ks).map (fun p => MV.bl (inB N nt p)) = L at *
    generalize (xs.zip ks).all (inB N nt) = bb at *
    generalize hX : xs.map MV.int = X at *
    have hXl : X.length = xs.length := by rw [← hX, List.length_map]
    have hne : ¬ ((X.length : Int) + 1 = 1 + (ks.length : Int)) → False := by omega
    have e3 : mDict [.inr "c", .inr "b", .inr "t", .inr "m"] (mCons (mVar 1) (mCons (mC (.int 256)) (mCons (mVar 2) (mCons (mC (.int 2)) (mNil))))) [some (.tup (.str wd :: X)), some (.int N), some (.int nt), some (.str t), none, none, none] = .ok (.dct [.inr "c", .inr "b", .inr "t", .inr "m"] [.int N, .int 256, .int nt, .int 2], [some (.tup (.str wd :: X)), some (.int N), some (.int nt), some (.str t), none, none, none]) := by
      rfl
    unfold m_pis_row
    generalize ([.inr "c", .inr "b", .inr "t", .inr "m"] : List Key) = DK at *
    generalize [MV.int N, .int 256, .int nt, .int 2] = DV at *
    have h5 : (ks.length : Int) + 1 = 1 + ks.length := by omega
    simp [pd, hXl, sz, hl, e3, hx2, h5, lc, ba]
  · generalize hX : xs.map MV.int = X at *
    have hXl : X.length = xs.length := by rw [← hX, List.length_map]
    have h2 : ¬ ((xs.length : Int) + 1 = 1 + (ks.length : Int)) := by omega
    simp [m_pis_row, pd, hXl, sz, hl, hn, h2]
def kindsT : List (Str × List Str) := [("look", ["c", "t"]), ("mark", ["m"]), ("put", ["c", "b"]), ("copy", ["c", "c"]), ("add", ["c", "c"]), ("addc", ["c", "c"]), ("and", ["c", "c"]), ("or", ["c", "c"]), ("left", ["c"]), ("right", ["c"])]
def rowOk (N nt : Int) (wd : Str) (xs : List Int) : Bool := match kindsT.lookup wd with
  | none => false
  | some ks => decide (xs.length = ks.length) && (xs.zip ks).all (inB N nt)
theorem lookup_map {α β : Type} (f : α → β) (wd : Str) : ∀ T : List (Str × α), (T.map fun p => (p.1, f p.2)).lookup wd = (T.lookup wd).map f
  | [] => rfl
  | p :: T => by
    rw [List.map_cons, List.lookup_cons, List.lookup_cons, lookup_map f wd T]
    cases wd == p.1 <;> rfl
theorem lookup_mem' {α : Type} {wd : Str} {v : α} : ∀ {T : List (Str × α)}, T.lookup wd = some v → (wd, v) ∈ T
  | [], h => by cases h
  | p :: T, h => by
    rw [List.lookup_cons] at h
    cases e : wd == p.1 with
    | true =>
      rw [e] at h
      cases h
      rw [show wd = p.1 from eq_of_beq e]
      exact List.mem_cons_self ..
    | false =>
      rw [e] at h
      exact List.mem_cons_of_mem _ (lookup_mem' h)
def joinK : List Str → MV
  | [a] => if a = "m" then .str "m" else .str "c"
  | [_, b] => if b = "t" then .str "ct" else if b = "b" then .str "cb" else .str "cc"
  | _ => .non
theorem parts_kinds : partsT = kindsT.map fun p => (p.1, joinK p.2) := rfl
theorem is_row_eq (wd : Str) (N nt : Int) (xs : List Int) (hx : xs.length < 1000) : f_pis_row [.tup (.str wd :: xs.map .int), .int N, .int nt] = .ok (.bl (rowOk N nt wd xs), []) := by
  have hp : partsT.lookup wd = (kindsT.lookup wd).map joinK := by rw [parts_kinds]; exact lookup_map joinK wd kindsT
  unfold rowOk
  cases hk : kindsT.lookup wd with
  | none =>
    rw [hk] at hp
    have pd := parts_due_eq wd
    rw [hp] at pd
    simp only [Option.map_none, Option.getD_none] at pd
    refine mFn_ok ?_
    generalize xs.map MV.int = X
    simp [m_pis_row, pd]
  | some ks =>
    rw [hk] at hp
    have hm := lookup_mem' hk
    simp only [kindsT, List.mem_cons, List.not_mem_nil, or_false, Prod.mk.injEq] at hm
    have hsome : ∃ t, joinK ks = .str t ∧ signsM t = ks.map .str ∧ bLen [.str t] = some (.int ks.length) ∧ ∀ k ∈ ks, k ∈ kindL := by
      rcases hm with ⟨_, rfl⟩ | ⟨_, rfl⟩ | ⟨_, rfl⟩ | ⟨_, rfl⟩ | ⟨_, rfl⟩ | ⟨_, rfl⟩ | ⟨_, rfl⟩ | ⟨_, rfl⟩ | ⟨_, rfl⟩ | ⟨_, rfl⟩
      · exact ⟨"ct", rfl, rfl, rfl, by decide⟩
      · exact ⟨"m", rfl, rfl, rfl, by decide⟩
      · exact ⟨"cb", rfl, rfl, rfl, by decide⟩
      · exact ⟨"cc", rfl, rfl, rfl, by decide⟩
      · exact ⟨"cc", rfl, rfl, rfl, by decide⟩
      · exact ⟨"cc", rfl, rfl, rfl, by decide⟩
      · exact ⟨"cc", rfl, rfl, rfl, by decide⟩
      · exact ⟨"cc", rfl, rfl, rfl, by decide⟩
      · exact ⟨"c", rfl, rfl, rfl, by decide⟩
      · exact ⟨"c", rfl, rfl, rfl, by decide⟩
    obtain ⟨t, h1, h2, h3, h4⟩ := hsome
    rw [Option.map_some, h1] at hp
    exact is_row_due N nt xs hp h2 h3 h4 hx
def tabOk (t : List Int) : Bool := decide (t.length = 256) && t.all fun b => decide (0 ≤ b) && decide (b < 256)
theorem is_table_eq (t : List Int) (hl : t.length < 1000) : f_pis_table [.tup (t.map .int)] = .ok (.bl (tabOk t), []) := by
  refine mFn_ok ?_
  have lc := mLcO_nm (it := mItV (mVar 0)) (e := mChain fLe fLt (mC (.int 0)) (mVar 1) (mC (.int 256))) (v := 1) (ρ := [some (.tup (t.map .int)), none]) (xs := t.map .int) (fun z => match z with | .int b => .bl (decide (0 ≤ b) && decide (b < 256)) | _ => .non) (by simp) rfl (by
    intro z hz
    obtain ⟨b, _, rfl⟩ := List.mem_map.mp hz
    by_cases h0 : 0 ≤ b
    · simp [h0]
    · simp [h0]) (by rw [sizeLine_eq, List.length_map]; omega)
  rw [List.map_map, show ((fun z : MV => match z with | .int b => MV.bl (decide (0 ≤ b) && decide (b < 256)) | _ => .non) ∘ MV.int) = fun b : Int => MV.bl (decide (0 ≤ b) && decide (b < 256)) from rfl] at lc
  have ba := ball_map (fun b : Int => decide (0 ≤ b) && decide (b < 256)) t
  have hX : (t.map MV.int).length = t.length := List.length_map ..
  have sz : szOk t.length = true := szOk_small (by omega)
  unfold tabOk
  generalize t.map MV.int = X at *
  generalize t.map (fun b : Int => MV.bl (decide (0 ≤ b) && decide (b < 256))) = L at *
  generalize t.all (fun b : Int => decide (0 ≤ b) && decide (b < 256)) = bb at *
  by_cases h : t.length = 256
  · have h2 : (t.length : Int) = 256 := by omega
    simp [m_pis_table, hX, sz, h, lc, ba]
  · have h2 : ¬ (t.length : Int) = 256 := by omega
    simp [m_pis_table, hX, sz, h, h2]
def enT (t : List Int) : MV := .tup (t.map .int)
def enA (r : Str × List Int) : MV := .tup (.str r.1 :: r.2.map .int)
def badTab : Nat → List (List Int) → Option Nat
  | _, [] => none
  | i, t :: ts => if i = 16 ∨ tabOk t = false then some i else badTab (i + 1) ts
def badRow (N nt : Int) : Nat → List (Str × List Int) → Option Nat
  | _, [] => none
  | i, r :: rs => if i = 9000 ∨ rowOk N nt r.1 r.2 = false then some i else badRow N nt (i + 1) rs
theorem hold_tabs (x0 x1 x2 x3 x6 : Option MV) : ∀ (ts : List (List Int)) (i : Nat) (x4 x5 : Option MV), (∀ t ∈ ts, t.length < 1000) →
    ∃ y4 y5, mLoop (gTp 2 (gsCons (gSet 4) (gsCons (gSet 5) gsNil))) b_phold_program_0 (enumK i (ts.map enT)) [x0, x1, x2, x3, x4, x5, x6] =
      match badTab i ts with
      | none => .ok (.nx, [x0, x1, x2, x3, y4, y5, x6])
      | some j => .exc ⟨"NoTable", [("at", .int (j : Nat))]⟩ [x0, x1, x2, x3, y4, y5, x6]
  | [], i, x4, x5, _ => ⟨x4, x5, rfl⟩
  | t :: ts, i, x4, x5, h => by
    have it := is_table_eq t (h t (List.mem_cons_self ..))
    have step : ∀ R, b_phold_program_0 [x0, x1, x2, x3, some (.int (i : Nat)), some (enT t), x6] = R → mLoop (gTp 2 (gsCons (gSet 4) (gsCons (gSet 5) gsNil))) b_phold_program_0 (enumK i ((t :: ts).map enT)) [x0, x1, x2, x3, x4, x5, x6] = (R.bind fun f ρ => match f with | .nx => mLoop (gTp 2 (gsCons (gSet 4) (gsCons (gSet 5) gsNil))) b_phold_program_0 (enumK (i + 1) (ts.map enT)) ρ | .ct => mLoop (gTp 2 (gsCons (gSet 4) (gsCons (gSet 5) gsNil))) b_phold_program_0 (enumK (i + 1) (ts.map enT)) ρ | .br => .ok (.nx, ρ) | .rt v => .ok (.rt v, ρ)) := by
      intro R hR
      rw [← hR]
      rfl
    by_cases hb : i = 16 ∨ tabOk t = false
    · refine ⟨some (.int (i : Nat)), some (enT t), ?_⟩
      have e : badTab i (t :: ts) = some i := if_pos hb
      rw [e]
      refine (step (.exc ⟨"NoTable", [("at", .int (i : Nat))]⟩ [x0, x1, x2, x3, some (.int (i : Nat)), some (enT t), x6]) ?_).trans rfl
      unfold enT
      generalize t.map MV.int = X at *
      rcases hb with rfl | hb
      · simp [b_phold_program_0]
      · by_cases h16 : (i : Int) = 16
        · simp [b_phold_program_0, h16]
        · simp [b_phold_program_0, h16, it, hb]
    · have e : badTab i (t :: ts) = badTab (i + 1) ts := if_neg hb
      rw [e]
      obtain ⟨y4, y5, ih⟩ := hold_tabs x0 x1 x2 x3 x6 ts (i + 1) (some (.int (i : Nat))) (some (enT t)) fun t ht => h t (List.mem_cons_of_mem _ ht)
      refine ⟨y4, y5, ?_⟩
      rw [← ih]
      refine (step (.ok (.nx, [x0, x1, x2, x3, some (.int (i : Nat)), some (enT t), x6])) ?_).trans rfl
      have h16 : ¬ (i : Int) = 16 := by omega
      have hb : tabOk t = true := by
        cases e : tabOk t with
        | true => rfl
        | false => exact absurd (.inr e) hb
      unfold enT
      generalize t.map MV.int = X at *
      simp [b_phold_program_0, h16, it, hb]
theorem hold_rows (N : Int) (nt : Nat) (tabs : List MV) (hT : tabs.length = nt) (hn : nt < 1000) (x0 x3 x5 : Option MV) : ∀ (rs : List (Str × List Int)) (i : Nat) (x4 x6 : Option MV), (∀ r ∈ rs, r.2.length < 1000) →
    ∃ y4 y6, mLoop (gTp 2 (gsCons (gSet 4) (gsCons (gSet 6) gsNil))) b_phold_program_1 (enumK i (rs.map enA)) [x0, some (.int N), some (.tup tabs), x3, x4, x5, x6] =
      match badRow N nt i rs with
      | none => .ok (.nx, [x0, some (.int N), some (.tup tabs), x3, y4, x5, y6])
      | some j => .exc ⟨"NoRow", [("at", .int (j : Nat))]⟩ [x0, some (.int N), some (.tup tabs), x3, y4, x5, y6]
  | [], i, x4, x6, _ => ⟨x4, x6, rfl⟩
  | r :: rs, i, x4, x6, h => by
    have it := is_row_eq r.1 N nt r.2 (h r (List.mem_cons_self ..))
    have sz : szOk nt = true := szOk_small (by omega)
    have step : ∀ R, b_phold_program_1 [x0, some (.int N), some (.tup tabs), x3, some (.int (i : Nat)), x5, some (enA r)] = R → mLoop (gTp 2 (gsCons (gSet 4) (gsCons (gSet 6) gsNil))) b_phold_program_1 (enumK i ((r :: rs).map enA)) [x0, some (.int N), some (.tup tabs), x3, x4, x5, x6] = (R.bind fun f ρ => match f with | .nx => mLoop (gTp 2 (gsCons (gSet 4) (gsCons (gSet 6) gsNil))) b_phold_program_1 (enumK (i + 1) (rs.map enA)) ρ | .ct => mLoop (gTp 2 (gsCons (gSet 4) (gsCons (gSet 6) gsNil))) b_phold_program_1 (enumK (i + 1) (rs.map enA)) ρ | .br => .ok (.nx, ρ) | .rt v => .ok (.rt v, ρ)) := by
      intro R hR
      rw [← hR]
      rfl
    by_cases hb : i = 9000 ∨ rowOk N nt r.1 r.2 = false
    · refine ⟨some (.int (i : Nat)), some (enA r), ?_⟩
      have e : badRow N nt i (r :: rs) = some i := if_pos hb
      rw [e]
      refine (step (.exc ⟨"NoRow", [("at", .int (i : Nat))]⟩ [x0, some (.int N), some (.tup tabs), x3, some (.int (i : Nat)), x5, some (enA r)]) ?_).trans rfl
      unfold enA
      generalize r.2.map MV.int = X at *
      rcases hb with rfl | hb
      · simp [b_phold_program_1]
      · by_cases h16 : (i : Int) = 9000
        · simp [b_phold_program_1, h16]
        · simp [b_phold_program_1, h16, it, hb, hT, sz]
    · have e : badRow N nt i (r :: rs) = badRow N nt (i + 1) rs := if_neg hb
      rw [e]
      obtain ⟨y4, y6, ih⟩ := hold_rows N nt tabs hT hn x0 x3 x5 rs (i + 1) (some (.int (i : Nat))) (some (enA r)) fun t ht => h t (List.mem_cons_of_mem _ ht)
      refine ⟨y4, y6, ?_⟩
      rw [← ih]
      refine (step (.ok (.nx, [x0, some (.int N), some (.tup tabs), x3, some (.int (i : Nat)), x5, some (enA r)])) ?_).trans rfl
      have h16 : ¬ (i : Int) = 9000 := by omega
      have hb : rowOk N nt r.1 r.2 = true := by
        cases e : rowOk N nt r.1 r.2 with
        | true => rfl
        | false => exact absurd (.inr e) hb
      unfold enA
      generalize r.2.map MV.int = X at *
      simp [b_phold_program_1, h16, it, hb, hT, sz]
theorem hold_eq (N : Int) (ts : List (List Int)) (rs : List (Str × List Int)) (ht : ∀ t ∈ ts, t.length < 1000) (hn : ts.length < 1000) (hr : ∀ r ∈ rs, r.2.length < 1000) :
    f_phold_program [.tup [.tup (ts.map enT), .tup (rs.map enA)], .int N] = match badTab 0 ts with
      | some j => .exc ⟨"NoTable", [("at", .int (j : Nat))]⟩ []
      | none => (match badRow N ts.length 0 rs with
        | some j => .exc ⟨"NoRow", [("at", .int (j : Nat))]⟩ []
        | none => .ok (.non, [])) := by
  have hT : (ts.map enT).length = ts.length := List.length_map ..
  obtain ⟨y4, y5, l1⟩ := hold_tabs (some (.tup [.tup (ts.map enT), .tup (rs.map enA)])) (some (.int N)) (some (.tup (ts.map enT))) (some (.tup (rs.map enA))) none ts 0 none none ht
  obtain ⟨z4, z6, l2⟩ := hold_rows N ts.length (ts.map enT) hT hn (some (.tup [.tup (ts.map enT), .tup (rs.map enA)])) (some (.tup (rs.map enA))) y5 rs 0 y4 none hr
  generalize ts.map enT = T at *
  generalize rs.map enA = R at *
  cases h1 : badTab 0 ts with
  | some j =>
    rw [h1] at l1
    refine mFn_exc ⟨[some (.tup [.tup T, .tup R]), some (.int N), some (.tup T), some (.tup R), y4, y5, none], ?_⟩
    show m_phold_program [some (.tup [.tup T, .tup R]), some (.int N), none, none, none, none, none] = _
    simp [m_phold_program, l1]
  | none =>
    rw [h1] at l1
    cases h2 : badRow N ts.length 0 rs with
    | some j =>
      rw [h2] at l2
      refine mFn_exc ⟨[some (.tup [.tup T, .tup R]), some (.int N), some (.tup T), some (.tup R), z4, y5, z6], ?_⟩
      show m_phold_program [some (.tup [.tup T, .tup R]), some (.int N), none, none, none, none, none] = _
      simp [m_phold_program, l1, l2]
    | none =>
      rw [h2] at l2
      refine mFn_nxB ⟨[some (.tup [.tup T, .tup R]), some (.int N), some (.tup T), some (.tup R), z4, y5, z6], ?_, rfl⟩
      show m_phold_program [some (.tup [.tup T, .tup R]), some (.int N), none, none, none, none, none] = _
      simp [m_phold_program, l1, l2]
def okN (N nt : Nat) : Rw → Bool
  | .put a v => decide (a < N) && decide (v < 256)
  | .look a k => decide (a < N) && decide (k < nt)
  | .copy a b => decide (a < N) && decide (b < N)
  | .add a b => decide (a < N) && decide (b < N)
  | .addc a b => decide (a < N) && decide (b < N)
  | .and_ a b => decide (a < N) && decide (b < N)
  | .or_ a b => decide (a < N) && decide (b < N)
  | .left a => decide (a < N)
  | .right a => decide (a < N)
  | .mark v => decide (v < 2)
def CellsN (N : Nat) (c : List Nat) : Prop := c.length = N ∧ ∀ i, cg c i < 256
theorem CellsN.set {N : Nat} {c : List Nat} (h : CellsN N c) {a v : Nat} (hv : v < 256) : CellsN N (c.set a v) := by
  refine ⟨by rw [List.length_set]; exact h.1, fun i => ?_⟩
  rw [cg_set]
  split
  · exact hv
  · exact h.2 i
theorem step_cellsN {N : Nat} {tb : Nat → Nat → Nat} {nt : Nat} (hb : TabLt tb nt) {c : List Nat} {m : Nat} (h : CellsN N c) (hm : m < 2) (r : Rw) (hr : okN N nt r = true) : CellsN N (stepL tb r (c, m)).1 ∧ (stepL tb r (c, m)).2 < 2 := by
  cases r with
  | put a v =>
    simp only [okN, Bool.and_eq_true, decide_eq_true_eq] at hr
    exact ⟨h.set hr.2, hm⟩
  | copy a b => exact ⟨h.set (h.2 b), hm⟩
  | look a k =>
    simp only [okN, Bool.and_eq_true, decide_eq_true_eq] at hr
    exact ⟨h.set (hb _ _ hr.2 (h.2 a)), hm⟩
  | add a b =>
    have h1 := h.2 a
    have h2 := h.2 b
    exact ⟨h.set (Nat.mod_lt _ (by decide)), by simp only [stepL]; omega⟩
  | addc a b =>
    have h1 := h.2 a
    have h2 := h.2 b
    exact ⟨h.set (Nat.mod_lt _ (by decide)), by simp only [stepL]; omega⟩
  | and_ a b => exact ⟨h.set (Nat.lt_of_le_of_lt Nat.and_le_left (h.2 a)), hm⟩
  | or_ a b => exact ⟨h.set (Nat.or_lt_two_pow (n := 8) (h.2 a) (h.2 b)), hm⟩
  | left a => exact ⟨h.set (Nat.mod_lt _ (by decide)), by have := h.2 a; simp only [stepL]; omega⟩
  | right a => exact ⟨h.set (by have := h.2 a; simp only []; omega), by simp only [stepL]; omega⟩
  | mark v =>
    simp only [okN, decide_eq_true_eq] at hr
    exact ⟨h, hr⟩
theorem encC_setI {i : Nat} {ρ : Env} {c : List Nat} {j v : Nat} (h : ρ[i]? = some (some (.own (encC c)))) (hj : j < c.length) : setIxM i (.int v) (.int j) ρ = .ok (.nx, ρ.set i (some (.own (encC (c.set j v))))) := by
  rw [setIxM_o h (j := j) (by unfold encC; rw [List.length_map]; exact (ixN_at (k := c.length) (i := (j : Int)) ⟨by omega, by omega⟩).trans (by simp))]
  unfold encC
  rw [List.map_set]
theorem ixV_ownI {i : Nat} {ρ : Env} {c : List Nat} {j : Nat} (h : ρ[i]? = some (some (.own (encC c)))) (hj : j < c.length) : ixV ρ i (.int j) = some (.int (cg c j : Nat)) := by
  unfold ixV
  rw [h]
  exact encC_at hj
theorem shift_left {N : Nat} {c : List Nat} {m a : Nat} (h : CellsN N c) (hm : m < 2) (ha : a < N) : f_pshift_step [.str "left", .own (encC c), .int a, .int m] = .ok (.int ((2 * cg c a + m) / 256 : Nat), [some (.own (encC (c.set a ((2 * cg c a + m) % 256))))]) := by
  have hl := h.1
  have hb := h.2 a
  refine mFn_rtB ⟨[some (.str "left"), some (.own (encC (c.set a ((2 * cg c a + m) % 256)))), some (.int a), some (.int m), some (.int (cg c a : Nat))], ?_, rfl⟩
  have rd : ∀ (x3 x4 : Option MV), ixV [some (.str "left"), some (.own (encC c)), some (.int a), x3, x4] 1 (.int a) = some (.int (cg c a : Nat)) := fun _ _ => ixV_ownI rfl (by omega)
  have w1 : ∀ (v : Nat) (x3 x4 : Option MV), setIxM 1 (.int v) (.int a) [some (.str "left"), some (.own (encC c)), some (.int a), x3, x4] = .ok (.nx, [some (.str "left"), some (.own (encC (c.set a v))), some (.int a), x3, x4]) := fun v _ _ => encC_setI rfl (by omega)
  have w1 := w1 ((2 * cg c a + m) % 256)
  have d1 : ((2 * cg c a + m : Nat) : Int).fmod 256 = (((2 * cg c a + m) % 256 : Nat) : Int) := nat_fmod _ 256
  have d2 : ((cg c a : Nat) : Int).fdiv 128 = ((cg c a / 128 : Nat) : Int) := nat_fdiv _ 128
  have e : (2 * cg c a + m) / 256 = cg c a / 128 := by omega
  have mz : mulOk 2 (cg c a : Int) = true := mulOk_l (by decide) (by decide)
  rw [e]
  generalize (2 * cg c a + m) % 256 = lo at *
  generalize cg c a / 128 = hi at *
  show m_pshift_step [some (.str "left"), some (.own (encC c)), some (.int a), some (.int m), none] = _
  simp at d1 d2
  simp [m_pshift_step, rd, w1, d1, d2, divOk, mz]
theorem shift_right {N : Nat} {c : List Nat} {m a : Nat} (h : CellsN N c) (hm : m < 2) (ha : a < N) : f_pshift_step [.str "right", .own (encC c), .int a, .int m] = .ok (.int ((cg c a + 256 * m) % 2 : Nat), [some (.own (encC (c.set a ((cg c a + 256 * m) / 2))))]) := by
  have hl := h.1
  have hb := h.2 a
  refine mFn_rtB ⟨[some (.str "right"), some (.own (encC (c.set a ((cg c a + 256 * m) / 2)))), some (.int a), some (.int m), some (.int (cg c a : Nat))], ?_, rfl⟩
  have rd : ∀ (x3 x4 : Option MV), ixV [some (.str "right"), some (.own (encC c)), some (.int a), x3, x4] 1 (.int a) = some (.int (cg c a : Nat)) := fun _ _ => ixV_ownI rfl (by omega)
  have w1 : ∀ (v : Nat) (x3 x4 : Option MV), setIxM 1 (.int v) (.int a) [some (.str "right"), some (.own (encC c)), some (.int a), x3, x4] = .ok (.nx, [some (.str "right"), some (.own (encC (c.set a v))), some (.int a), x3, x4]) := fun v _ _ => encC_setI rfl (by omega)
  have e : (cg c a + 256 * m) / 2 = cg c a / 2 + 128 * m := by omega
  have e2 : (cg c a + 256 * m) % 2 = cg c a % 2 := by omega
  have w1 := w1 (cg c a / 2 + 128 * m)
  have d1 : ((cg c a : Nat) : Int).fmod 2 = ((cg c a % 2 : Nat) : Int) := nat_fmod _ 2
  have d2 : ((cg c a : Nat) : Int).fdiv 2 = ((cg c a / 2 : Nat) : Int) := nat_fdiv _ 2
  have mz : mulOk 128 (m : Int) = true := mulOk_l (by decide) (by decide)
  rw [e, e2]
  generalize cg c a / 2 = lo at *
  generalize cg c a % 2 = hi at *
  show m_pshift_step [some (.str "right"), some (.own (encC c)), some (.int a), some (.int m), none] = _
  simp at d1 d2 w1
  simp [m_pshift_step, rd, w1, d1, d2, divOk, mz]
theorem sum_step_eq {N : Nat} {c : List Nat} {m a b : Nat} (wd : Str) (h : CellsN N c) (hm : m < 2) (ha : a < N) (hb : b < N) (k : Nat) (hk : k = if wd = "addc" then m else 0) : f_psum_step [.str wd, .own (encC c), .int a, .int b, .int m] = .ok (.int ((cg c a + cg c b + k) / 256 : Nat), [some (.own (encC (c.set a ((cg c a + cg c b + k) % 256))))]) := by
  have hl := h.1
  have rd : ∀ (i : Nat) (x4 x5 : Option MV), i < N → ixV [some (.str wd), some (.own (encC c)), some (.int a), some (.int b), x4, x5] 1 (.int i) = some (.int (cg c i : Nat)) := fun i _ _ h => ixV_ownI rfl (by omega)
  have w1 : ∀ (v : Nat) (x4 x5 : Option MV), setIxM 1 (.int v) (.int a) [some (.str wd), some (.own (encC c)), some (.int a), some (.int b), x4, x5] = .ok (.nx, [some (.str wd), some (.own (encC (c.set a v))), some (.int a), some (.int b), x4, x5]) := fun v _ _ => encC_setI rfl (by omega)
  have w1 := w1 ((cg c a + cg c b + k) % 256)
  have d1 : ((cg c a + cg c b + k : Nat) : Int).fmod 256 = (((cg c a + cg c b + k) % 256 : Nat) : Int) := nat_fmod _ 256
  have d2 : ((cg c a + cg c b + k : Nat) : Int).fdiv 256 = (((cg c a + cg c b + k) / 256 : Nat) : Int) := nat_fdiv _ 256
  refine mFn_rtB ⟨[some (.str wd), some (.own (encC (c.set a ((cg c a + cg c b + k) % 256)))), some (.int a), some (.int b), some (.int m), some (.int (cg c a + cg c b + k : Nat))], ?_, rfl⟩
  show m_psum_step [some (.str wd), some (.own (encC c)), some (.int a), some (.int b), some (.int m), none] = _
  generalize (cg c a + cg c b + k) % 256 = lo at *
  generalize (cg c a + cg c b + k) / 256 = hi at *
  simp at d1 d2 w1
  by_cases hw : wd = "addc"
  · rw [if_pos hw] at hk
    subst hk
    subst hw
    simp [m_psum_step, rd _ _ _ ha, rd _ _ _ hb, w1, d1, d2, divOk, fAddI]
  · rw [if_neg hw] at hk
    subst hk
    simp at d1 d2
    simp [m_psum_step, rd _ _ _ ha, rd _ _ _ hb, w1, d1, d2, divOk, hw]
theorem pstep_eq {tb : Nat → Nat → Nat} {nt N : Nat} {tabs : List MV} (ht : TabsAre tb nt tabs) {c : List Nat} {m : Nat} (h : CellsN N c) (hm : m < 2) (r : Rw) (hr : okN N nt r = true) :
    f_pstep [.tup tabs, enR r, .own (encC c), .int m] = .ok (.int (stepL tb r (c, m)).2, [some (.own (encC (stepL tb r (c, m)).1))]) := by
  have hl := h.1
  have rd : ∀ (i : Nat) (x0 x1 x3 x4 x5 x6 : Option MV), i < N → ixV [x0, x1, some (.own (encC c)), x3, x4, x5, x6] 2 (.int i) = some (.int (cg c i : Nat)) := fun i _ _ _ _ _ _ h => ixV_ownI rfl (by omega)
  have wr : ∀ (i v : Nat) (x0 x1 x3 x4 x5 x6 : Option MV), i < N → setIxM 2 (.int v) (.int i) [x0, x1, some (.own (encC c)), x3, x4, x5, x6] = .ok (.nx, [x0, x1, some (.own (encC (c.set i v))), x3, x4, x5, x6]) := fun i v _ _ _ _ _ _ h => encC_setI rfl (by omega)
  have s2 : szOk 2 = true := szOk_small (by omega)
  have go : ∀ {v : MV} {ρ : Env} {os : Env}, m_pstep [some (.tup tabs), some (enR r), some (.own (encC c)), some (.int m), none, none, none] = .ok (.rt v, ρ) → endOf [2] ρ = os → f_pstep [.tup tabs, enR r, .own (encC c), .int m] = .ok (v, os) := fun h1 h2 => mFn_rtB ⟨_, h1, h2⟩
  cases r with
  | put a v =>
    simp only [okN, Bool.and_eq_true, decide_eq_true_eq] at hr
    refine go (ρ := [some (.tup tabs), some (enR (.put a v)), some (.own (encC (c.set a v))), some (.int m), some (.str "put"), some (.int a), some (.int v)]) ?_ rfl
    have i1 : fIn (.str "put") (.tup [.str "left", .str "right"]) = some (.bl false) := rfl
    have i2 : fIn (.str "put") (.tup [.str "add", .str "addc"]) = some (.bl false) := rfl
    simp [m_pstep, s2, enR, stepL, i1, i2, cutM_from, wr _ _ _ _ _ _ _ _ hr.1]
  | copy a b =>
    simp only [okN, Bool.and_eq_true, decide_eq_true_eq] at hr
    refine go (ρ := [some (.tup tabs), some (enR (.copy a b)), some (.own (encC (c.set a (cg c b)))), some (.int m), some (.str "copy"), some (.int a), some (.int b)]) ?_ rfl
    have i1 : fIn (.str "copy") (.tup [.str "left", .str "right"]) = some (.bl false) := rfl
    have i2 : fIn (.str "copy") (.tup [.str "add", .str "addc"]) = some (.bl false) := rfl
    simp [m_pstep, s2, enR, stepL, i1, i2, cutM_from, wr _ _ _ _ _ _ _ _ hr.1, rd _ _ _ _ _ _ _ hr.2]
  | look a k =>
    simp only [okN, Bool.and_eq_true, decide_eq_true_eq] at hr
    have h1 := ht k hr.2
    have h2 := tab_at (g := tb k) (h.2 a)
    refine go (ρ := [some (.tup tabs), some (enR (.look a k)), some (.own (encC (c.set a (tb k (cg c a))))), some (.int m), some (.str "look"), some (.int a), some (.int k)]) ?_ rfl
    have i1 : fIn (.str "look") (.tup [.str "left", .str "right"]) = some (.bl false) := rfl
    have i2 : fIn (.str "look") (.tup [.str "add", .str "addc"]) = some (.bl false) := rfl
    generalize (List.range 256).map (fun b => MV.int (tb k b)) = tl at *
    simp [m_pstep, s2, enR, stepL, i1, i2, cutM_from, wr _ _ _ _ _ _ _ _ hr.1, rd _ _ _ _ _ _ _ hr.1, h1, h2]
  | add a b =>
    simp only [okN, Bool.and_eq_true, decide_eq_true_eq] at hr
    have s := sum_step_eq "add" h hm hr.1 hr.2 0 rfl
    refine go (ρ := [some (.tup tabs), some (enR (.add a b)), some (.own (encC (c.set a ((cg c a + cg c b) % 256)))), some (.int m), some (.str "add"), some (.int a), some (.int b)]) ?_ rfl
    have i1 : fIn (.str "add") (.tup [.str "left", .str "right"]) = some (.bl false) := rfl
    have i2 : fIn (.str "add") (.tup [.str "add", .str "addc"]) = some (.bl true) := rfl
    rw [Nat.add_zero] at s
    simp only [stepL]
    generalize (cg c a + cg c b) % 256 = lo at *
    generalize (cg c a + cg c b) / 256 = hi at *
    simp [m_pstep, s2, enR, i1, i2, cutM_from, s]
  | addc a b =>
    simp only [okN, Bool.and_eq_true, decide_eq_true_eq] at hr
    have s := sum_step_eq "addc" h hm hr.1 hr.2 m rfl
    refine go (ρ := [some (.tup tabs), some (enR (.addc a b)), some (.own (encC (c.set a ((cg c a + cg c b + m) % 256)))), some (.int m), some (.str "addc"), some (.int a), some (.int b)]) ?_ rfl
    have i1 : fIn (.str "addc") (.tup [.str "left", .str "right"]) = some (.bl false) := rfl
    have i2 : fIn (.str "addc") (.tup [.str "add", .str "addc"]) = some (.bl true) := rfl
    simp only [stepL]
    generalize (cg c a + cg c b + m) % 256 = lo at *
    generalize (cg c a + cg c b + m) / 256 = hi at *
    simp [m_pstep, s2, enR, i1, i2, cutM_from, s]
  | and_ a b =>
    simp only [okN, Bool.and_eq_true, decide_eq_true_eq] at hr
    refine go (ρ := [some (.tup tabs), some (enR (.and_ a b)), some (.own (encC (c.set a (cg c a &&& cg c b)))), some (.int m), some (.str "and"), some (.int a), some (.int b)]) ?_ rfl
    have e := bitAnd_n (cg c a) (cg c b)
    have w1 := fun x0 x1 x3 x4 x5 x6 => wr a (cg c a &&& cg c b) x0 x1 x3 x4 x5 x6 hr.1
    have i1 : fIn (.str "and") (.tup [.str "left", .str "right"]) = some (.bl false) := rfl
    have i2 : fIn (.str "and") (.tup [.str "add", .str "addc"]) = some (.bl false) := rfl
    simp [m_pstep, s2, enR, stepL, i1, i2, cutM_from, w1, rd _ _ _ _ _ _ _ hr.1, rd _ _ _ _ _ _ _ hr.2, fAnd, e]
  | or_ a b =>
    simp only [okN, Bool.and_eq_true, decide_eq_true_eq] at hr
    refine go (ρ := [some (.tup tabs), some (enR (.or_ a b)), some (.own (encC (c.set a (cg c a ||| cg c b)))), some (.int m), some (.str "or"), some (.int a), some (.int b)]) ?_ rfl
    have e := bitOr_n (cg c a) (cg c b)
    have w1 := fun x0 x1 x3 x4 x5 x6 => wr a (cg c a ||| cg c b) x0 x1 x3 x4 x5 x6 hr.1
    have i1 : fIn (.str "or") (.tup [.str "left", .str "right"]) = some (.bl false) := rfl
    have i2 : fIn (.str "or") (.tup [.str "add", .str "addc"]) = some (.bl false) := rfl
    simp [m_pstep, s2, enR, stepL, i1, i2, cutM_from, w1, rd _ _ _ _ _ _ _ hr.1, rd _ _ _ _ _ _ _ hr.2, fOr, e]
  | left a =>
    simp only [okN, decide_eq_true_eq] at hr
    have s := shift_left h hm hr
    refine go (ρ := [some (.tup tabs), some (enR (.left a)), some (.own (encC (c.set a ((2 * cg c a + m) % 256)))), some (.int m), some (.str "left"), none, none]) ?_ rfl
    have i1 : fIn (.str "left") (.tup [.str "left", .str "right"]) = some (.bl true) := rfl
    simp only [stepL]
    generalize (2 * cg c a + m) % 256 = lo at *
    generalize (2 * cg c a + m) / 256 = hi at *
    simp [m_pstep, s2, enR, i1, s]
  | right a =>
    simp only [okN, decide_eq_true_eq] at hr
    have s := shift_right h hm hr
    refine go (ρ := [some (.tup tabs), some (enR (.right a)), some (.own (encC (c.set a ((cg c a + 256 * m) / 2)))), some (.int m), some (.str "right"), none, none]) ?_ rfl
    have i1 : fIn (.str "right") (.tup [.str "left", .str "right"]) = some (.bl true) := rfl
    simp only [stepL]
    generalize (cg c a + 256 * m) / 2 = lo at *
    generalize (cg c a + 256 * m) % 2 = hi at *
    simp [m_pstep, s2, enR, i1, s]
  | mark v =>
    refine go (ρ := [some (.tup tabs), some (enR (.mark v)), some (.own (encC c)), some (.int m), some (.str "mark"), none, none]) ?_ rfl
    simp [m_pstep, s2, enR, stepL]
theorem run_cellsN {N : Nat} {tb : Nat → Nat → Nat} {nt : Nat} (hb : TabLt tb nt) : ∀ (rs : List Rw) (c : List Nat) (m : Nat), CellsN N c → m < 2 → rs.all (okN N nt) = true → CellsN N (runL tb rs (c, m)).1 ∧ (runL tb rs (c, m)).2 < 2
  | [], c, m, h, hm, _ => ⟨h, hm⟩
  | r :: rs, c, m, h, hm, hr => by
    rw [List.all_cons, Bool.and_eq_true] at hr
    obtain ⟨h1, h2⟩ := step_cellsN hb h hm r hr.1
    exact run_cellsN hb rs (stepL tb r (c, m)).1 (stepL tb r (c, m)).2 h1 h2 hr.2
def abR : Rw → Str × List Int
  | .put a v => ("put", [a, v])
  | .copy a b => ("copy", [a, b])
  | .look a k => ("look", [a, k])
  | .add a b => ("add", [a, b])
  | .addc a b => ("addc", [a, b])
  | .and_ a b => ("and", [a, b])
  | .or_ a b => ("or", [a, b])
  | .left a => ("left", [a])
  | .right a => ("right", [a])
  | .mark v => ("mark", [v])
theorem enA_abR (r : Rw) : enA (abR r) = enR r := by cases r <;> rfl
theorem rowOk_of {N nt : Int} {wd : Str} {xs : List Int} {ks : List Str} (h : kindsT.lookup wd = some ks) : rowOk N nt wd xs = (decide (xs.length = ks.length) && (xs.zip ks).all (inB N nt)) := by
  unfold rowOk; rw [h]
theorem bndK (N nt : Int) : bndOf N nt "c" = N ∧ bndOf N nt "b" = 256 ∧ bndOf N nt "t" = nt ∧ bndOf N nt "m" = 2 := ⟨rfl, rfl, rfl, rfl⟩
theorem ok_abR {N nt : Nat} (r : Rw) : rowOk N nt (abR r).1 (abR r).2 = okN N nt r := by
  obtain ⟨b1, b2, b3, b4⟩ := bndK N nt
  have q1 : ∀ v : Nat, ((v : Int) < 256) = (v < 256) := fun v => propext ⟨fun h => by omega, fun h => by omega⟩
  have q2 : ∀ v : Nat, ((v : Int) < 2) = (v < 2) := fun v => propext ⟨fun h => by omega, fun h => by omega⟩
  cases r with
  | put a v => rw [show (abR (.put a v)).1 = "put" from rfl, rowOk_of (ks := ["c", "b"]) rfl]; simp [abR, inB, b1, b2, okN, q1]
  | copy a b => rw [show (abR (.copy a b)).1 = "copy" from rfl, rowOk_of (ks := ["c", "c"]) rfl]; simp [abR, inB, b1, okN]
  | look a b => rw [show (abR (.look a b)).1 = "look" from rfl, rowOk_of (ks := ["c", "t"]) rfl]; simp [abR, inB, b1, b3, okN]
  | add a b => rw [show (abR (.add a b)).1 = "add" from rfl, rowOk_of (ks := ["c", "c"]) rfl]; simp [abR, inB, b1, okN]
  | addc a b => rw [show (abR (.addc a b)).1 = "addc" from rfl, rowOk_of (ks := ["c", "c"]) rfl]; simp [abR, inB, b1, okN]
  | and_ a b => rw [show (abR (.and_ a b)).1 = "and" from rfl, rowOk_of (ks := ["c", "c"]) rfl]; simp [abR, inB, b1, okN]
  | or_ a b => rw [show (abR (.or_ a b)).1 = "or" from rfl, rowOk_of (ks := ["c", "c"]) rfl]; simp [abR, inB, b1, okN]
  | left a => rw [show (abR (.left a)).1 = "left" from rfl, rowOk_of (ks := ["c"]) rfl]; simp [abR, inB, b1, okN]
  | right a => rw [show (abR (.right a)).1 = "right" from rfl, rowOk_of (ks := ["c"]) rfl]; simp [abR, inB, b1, okN]
  | mark a => rw [show (abR (.mark a)).1 = "mark" from rfl, rowOk_of (ks := ["m"]) rfl]; simp [abR, inB, b4, okN, q2]
theorem badRow_good {N nt : Nat} : ∀ (rs : List Rw) (i : Nat), i + rs.length ≤ 9000 → rs.all (okN N nt) = true → badRow N nt i (rs.map abR) = none
  | [], _, _, _ => rfl
  | r :: rs, i, hi, h => by
    rw [List.all_cons, Bool.and_eq_true] at h
    rw [List.length_cons] at hi
    rw [List.map_cons]
    refine (if_neg ?_).trans (badRow_good rs (i + 1) (by omega) h.2)
    rw [ok_abR, h.1]
    simp; omega
theorem badTab_good : ∀ (ts : List (List Int)) (i : Nat), i + ts.length ≤ 16 → ts.all tabOk = true → badTab i ts = none
  | [], _, _, _ => rfl
  | t :: ts, i, hi, h => by
    rw [List.all_cons, Bool.and_eq_true] at h
    rw [List.length_cons] at hi
    refine (if_neg ?_).trans (badTab_good ts (i + 1) (by omega) h.2)
    rw [h.1]
    simp; omega
theorem abR_len (r : Rw) : (abR r).2.length < 1000 := by cases r <;> simp [abR]
def CR (c : List Nat) (m : Nat) (p : List Nat × Nat) (a : Nat) : Prop := Cells p.1 ∧ p.2 = m ∧ (∀ i, i < 252 → cg p.1 i = cg c i) ∧ cg p.1 252 = a
theorem tabs_gen (tb : Nat → Nat → Nat) (nt : Nat) : TabsAre tb nt ((List.range nt).map fun k => .tup ((List.range 256).map fun b => .int (tb k b))) := by
  intro k hk
  rw [atI_ge (by omega), Int.toNat_natCast, List.getElem?_map, List.getElem?_range hk]; rfl
theorem lrunN_step {N : Nat} {tb : Nat → Nat → Nat} {nt : Nat} {tabs : List MV} (ht : TabsAre tb nt tabs) {c : List Nat} {m : Nat} (hl : c.length = N) (hc : ∀ i, cg c i < 256) (r : Rw) (hr : okN N nt r = true) (x0 x5 x6 x7 x8 : Option MV) :
    ∃ y6 y7 y8, b_lrun_0 [x0, some (.own (encC c)), some (.int m), some (enR r), some (.tup tabs), x5, x6, x7, x8] = .ok (.nx, [x0, some (.own (encC (stepL tb r (c, m)).1)), some (.int (stepL tb r (c, m)).2), some (enR r), some (.tup tabs), x5, y6, y7, y8]) := by
  have rd : ∀ (i : Nat) (x2 x3 x4 x6 x7 x8 : Option MV), i < N → ixV [x0, some (.own (encC c)), x2, x3, x4, x5, x6, x7, x8] 1 (.int i) = some (.int (cg c i : Nat)) := fun i _ _ _ _ _ _ h => ixV_own rfl (by omega)
  have wr : ∀ (i v : Nat) (x2 x3 x4 x6 x7 x8 : Option MV), i < N → setIxM 1 (.int v) (.int i) [x0, some (.own (encC c)), x2, x3, x4, x5, x6, x7, x8] = .ok (.nx, [x0, some (.own (encC (c.set i v))), x2, x3, x4, x5, x6, x7, x8]) := fun i v _ _ _ _ _ _ h => encC_set rfl (by omega)
  have dm : ∀ t : Nat, (t : Int).fmod 256 = ((t % 256 : Nat) : Int) := fun t => nat_fmod t 256
  have dd : ∀ t : Nat, (t : Int).fdiv 256 = ((t / 256 : Nat) : Int) := fun t => nat_fdiv t 256
  have em : ∀ t : Nat, (t : Int).fmod 2 = ((t % 2 : Nat) : Int) := fun t => nat_fmod t 2
  have ed : ∀ t : Nat, (t : Int).fdiv 2 = ((t / 2 : Nat) : Int) := fun t => nat_fdiv t 2
  cases r with
  | put a v =>
    simp only [okN, Bool.and_eq_true, decide_eq_true_eq] at hr
    refine ⟨some (.str "put"), some (.int a), x8, ?_⟩
    simp [b_lrun_0, enR, stepL, wr _ _ _ _ _ _ _ _ hr.1]
  | copy a b =>
    simp only [okN, Bool.and_eq_true, decide_eq_true_eq] at hr
    refine ⟨some (.str "copy"), some (.int a), x8, ?_⟩
    simp [b_lrun_0, enR, stepL, wr _ _ _ _ _ _ _ _ hr.1, rd _ _ _ _ _ _ _ hr.2]
  | look a k =>
    simp only [okN, Bool.and_eq_true, decide_eq_true_eq] at hr
    refine ⟨some (.str "look"), some (.int a), x8, ?_⟩
    have h1 := ht k hr.2
    have h2 := tab_at (g := tb k) (hc a)
    generalize (List.range 256).map (fun b => MV.int (tb k b)) = tl at *
    simp [b_lrun_0, enR, stepL, wr _ _ _ _ _ _ _ _ hr.1, rd _ _ _ _ _ _ _ hr.1, h1, h2]
  | add a b =>
    simp only [okN, Bool.and_eq_true, decide_eq_true_eq] at hr
    have e : ((cg c a : Int) + cg c b + 0) = ((cg c a + cg c b : Nat) : Int) := by omega
    refine ⟨some (.str "add"), some (.int a), some (.int (cg c a + cg c b : Nat)), ?_⟩
    have d1 := dm (cg c a + cg c b)
    have d2 := dd (cg c a + cg c b)
    have w1 := fun x2 x3 x4 x6 x7 x8 => wr a ((cg c a + cg c b) % 256) x2 x3 x4 x6 x7 x8 hr.1
    have mz : mulOk (m : Int) 0 = true := mulOk_r (by decide) (by decide)
    simp only [stepL]
    generalize (cg c a + cg c b) % 256 = lo at *
    generalize (cg c a + cg c b) / 256 = hi at *
    simp at d1 d2
    simp [b_lrun_0, enR, stepL, w1, rd _ _ _ _ _ _ _ hr.1, rd _ _ _ _ _ _ _ hr.2, mz, divOk, d1, d2]
  | addc a b =>
    simp only [okN, Bool.and_eq_true, decide_eq_true_eq] at hr
    refine ⟨some (.str "addc"), some (.int a), some (.int (cg c a + cg c b + m : Nat)), ?_⟩
    have d1 := dm (cg c a + cg c b + m)
    have d2 := dd (cg c a + cg c b + m)
    have w1 := fun x2 x3 x4 x6 x7 x8 => wr a ((cg c a + cg c b + m) % 256) x2 x3 x4 x6 x7 x8 hr.1
    have mz : mulOk (m : Int) 1 = true := mulOk_r (by decide) (by decide)
    simp only [stepL]
    generalize (cg c a + cg c b + m) % 256 = lo at *
    generalize (cg c a + cg c b + m) / 256 = hi at *
    simp at d1 d2
    simp [b_lrun_0, enR, stepL, w1, rd _ _ _ _ _ _ _ hr.1, rd _ _ _ _ _ _ _ hr.2, mz, divOk, d1, d2]
  | and_ a b =>
    simp only [okN, Bool.and_eq_true, decide_eq_true_eq] at hr
    refine ⟨some (.str "and"), some (.int a), x8, ?_⟩
    have e := bitAnd_n (cg c a) (cg c b)
    have w1 := fun x2 x3 x4 x6 x7 x8 => wr a (cg c a &&& cg c b) x2 x3 x4 x6 x7 x8 hr.1
    simp [b_lrun_0, enR, stepL, w1, rd _ _ _ _ _ _ _ hr.1, rd _ _ _ _ _ _ _ hr.2, fAnd, e]
  | or_ a b =>
    simp only [okN, Bool.and_eq_true, decide_eq_true_eq] at hr
    refine ⟨some (.str "or"), some (.int a), x8, ?_⟩
    have e := bitOr_n (cg c a) (cg c b)
    have w1 := fun x2 x3 x4 x6 x7 x8 => wr a (cg c a ||| cg c b) x2 x3 x4 x6 x7 x8 hr.1
    simp [b_lrun_0, enR, stepL, w1, rd _ _ _ _ _ _ _ hr.1, rd _ _ _ _ _ _ _ hr.2, fOr, e]
  | left a =>
    simp only [okN, decide_eq_true_eq] at hr
    refine ⟨some (.str "left"), some (.int a), some (.int (2 * cg c a + m : Nat)), ?_⟩
    have d1 := dm (2 * cg c a + m)
    have d2 := dd (2 * cg c a + m)
    have w1 := fun x2 x3 x4 x6 x7 x8 => wr a ((2 * cg c a + m) % 256) x2 x3 x4 x6 x7 x8 hr
    have mz : mulOk 2 (cg c a : Int) = true := mulOk_l (by decide) (by decide)
    simp only [stepL]
    generalize (2 * cg c a + m) % 256 = lo at *
    generalize (2 * cg c a + m) / 256 = hi at *
    simp at d1 d2
    simp [b_lrun_0, enR, stepL, w1, rd _ _ _ _ _ _ _ hr, mz, divOk, d1, d2]
  | right a =>
    simp only [okN, decide_eq_true_eq] at hr
    refine ⟨some (.str "right"), some (.int a), some (.int (cg c a + 256 * m : Nat)), ?_⟩
    have d1 := em (cg c a + 256 * m)
    have d2 := ed (cg c a + 256 * m)
    have w1 := fun x2 x3 x4 x6 x7 x8 => wr a ((cg c a + 256 * m) / 2) x2 x3 x4 x6 x7 x8 hr
    have mz : mulOk 256 (m : Int) = true := mulOk_l (by decide) (by decide)
    simp only [stepL]
    generalize (cg c a + 256 * m) % 2 = lo at *
    generalize (cg c a + 256 * m) / 2 = hi at *
    simp at d1 d2
    simp [b_lrun_0, enR, stepL, w1, rd _ _ _ _ _ _ _ hr, mz, divOk, d1, d2]
  | mark v =>
    refine ⟨some (.str "mark"), some (.int v), x8, ?_⟩
    simp [b_lrun_0, enR, stepL]
theorem lrunN_loop {N : Nat} {tb : Nat → Nat → Nat} {nt : Nat} {tabs : List MV} (ht : TabsAre tb nt tabs) (hb : TabLt tb nt) (x0 x5 : Option MV) : ∀ (rs : List Rw) (c : List Nat) (m : Nat) (x3 x6 x7 x8 : Option MV), CellsN N c → m < 2 → rs.all (okN N nt) = true →
    ∃ y3 y6 y7 y8, mLoop (gSet 3) b_lrun_0 (rs.map enR) [x0, some (.own (encC c)), some (.int m), x3, some (.tup tabs), x5, x6, x7, x8] = .ok (.nx, [x0, some (.own (encC (runL tb rs (c, m)).1)), some (.int (runL tb rs (c, m)).2), y3, some (.tup tabs), x5, y6, y7, y8])
  | [], c, m, x3, x6, x7, x8, _, _, _ => ⟨x3, x6, x7, x8, rfl⟩
  | r :: rs, c, m, x3, x6, x7, x8, h, hm, hr => by
    rw [List.all_cons, Bool.and_eq_true] at hr
    obtain ⟨y6, y7, y8, e⟩ := lrunN_step ht h.1 h.2 (m := m) r hr.1 x0 x5 x6 x7 x8
    obtain ⟨h1, h2⟩ := step_cellsN hb h hm r hr.1
    obtain ⟨z3, z6, z7, z8, ih⟩ := lrunN_loop ht hb x0 x5 rs (stepL tb r (c, m)).1 (stepL tb r (c, m)).2 (some (enR r)) y6 y7 y8 h1 h2 hr.2
    refine ⟨z3, z6, z7, z8, ?_⟩
    rw [List.map_cons, mLoop]
    show (b_lrun_0 [x0, some (.own (encC c)), some (.int m), some (enR r), some (.tup tabs), x5, x6, x7, x8]).bind _ = _
    rw [e]
    exact ih
theorem lrunN_eq {N : Nat} {T : List MV → MV} (hT : T = .lst ∨ T = .tup) (hN : N ≤ 256) {tb : Nat → Nat → Nat} {nt : Nat} {tabs : List MV} (ht : TabsAre tb nt tabs) (hb : TabLt tb nt) (rs : List Rw) (c : List Nat) (m : Nat) (h : CellsN N c) (hm : m < 2) (hr : rs.all (okN N nt) = true) :
    f_lrun [.tup [.tup tabs, .tup (rs.map enR)], T (encC c), .int m] = .ok (.tup [.lst (encC (runL tb rs (c, m)).1), .int (runL tb rs (c, m)).2], []) := by
  refine mFn_ok ?_
  have hl : (encC c).length ≤ sizeLine := by unfold encC; rw [List.length_map, h.1, sizeLine_eq]; omega
  obtain ⟨y3, y6, y7, y8, lp⟩ := lrunN_loop ht hb (some (.tup [.tup tabs, .tup (rs.map enR)])) (some (.tup (rs.map enR))) rs c m none none none none h hm hr
  have bl : bList [T (encC c)] = some (.lst (encC c)) := by rcases hT with rfl | rfl <;> rfl
  generalize rs.map enR = R at *
  generalize encC c = C at *
  rcases hT with rfl | rfl <;> simp [m_lrun, lp, szOk_small, bl]
def tabsOf (tb : Nat → Nat → Nat) (nt : Nat) : List MV := (List.range nt).map fun k => .tup ((List.range 256).map fun b => .int (tb k b))
structure DrP (N : Nat) where
  tb : Nat → Nat → Nat
  nt : Nat
  rs : List Rw
  c : List Nat
  m : Nat
  h16 : nt ≤ 16
  tl : TabLt tb nt
  ok : rs.all (okN N nt) = true
  h48 : rs.length ≤ 48
  cn : CellsN N c
  m2 : m < 2
theorem tabsOf_enT (tb : Nat → Nat → Nat) (nt : Nat) : tabsOf tb nt = ((List.range nt).map fun k => (List.range 256).map fun b => ((tb k b : Nat) : Int)).map enT := by
  unfold tabsOf
  rw [List.map_map]
  apply List.map_congr_left
  intro k _
  show MV.tup _ = MV.tup _
  rw [List.map_map]
  rfl
theorem tabsT_ok {tb : Nat → Nat → Nat} {nt : Nat} (h : TabLt tb nt) : ((List.range nt).map fun k => (List.range 256).map fun b => ((tb k b : Nat) : Int)).all tabOk = true := by
  rw [List.all_eq_true]
  intro t ht
  obtain ⟨k, hk, rfl⟩ := List.mem_map.mp ht
  unfold tabOk
  rw [Bool.and_eq_true, List.all_eq_true]
  refine ⟨by simp, fun b hb => ?_⟩
  obtain ⟨v, hv, rfl⟩ := List.mem_map.mp hb
  have := h k v (List.mem_range.mp hk) (List.mem_range.mp hv)
  simp; omega
def nd (m : Nat) : Nat := (Nat.toDigits 10 m).length
section
variable {g : MG} {b : MS} {x v : MV} {xs : List MV} {ρ ρ1 ρ2 : Env} {e : MX}
theorem loop_c_nx (hg : g x ρ = some ρ1) (hb : b ρ1 = .ok (.nx, ρ2)) : mLoop g b (x :: xs) ρ = mLoop g b xs ρ2 := by
  conv => lhs; unfold mLoop
  rw [hg]; simp only [hb, bind_ok]
theorem loop_c_rt (hg : g x ρ = some ρ1) (hb : b ρ1 = .ok (.rt v, ρ2)) : mLoop g b (x :: xs) ρ = .ok (.rt v, ρ2) := by
  unfold mLoop; rw [hg]; simp only [hb, bind_ok]
end
inductive Rd where
  | bad (j : Nat)
  | got (rs : List (Str × List Int))
theorem mLcO_it {α : Type} {it : MI} {e : ME} {v : Nat} {ρ : Env} {l : List α} (item y : α → MV) (hi : it ρ = .ok (l.map item, ρ)) (hv : ρ[v]? = some none) (he : ∀ a ∈ l, e (ρ.set v (some (item a))) = .ok (y a, ρ.set v (some (item a)))) (hz : l.length ≤ sizeLine) :
    mLcO it (.nm v) mYes e [v] ρ = .ok (.own (l.map y), ρ) := by
  have := mLcO_nm (it := it) (e := e) (v := v) (ρ := ρ) (xs := l.map item) (fun z => match e (ρ.set v (some z)) with | .ok (r, _) => r | _ => .non) hi hv (fun x hx => by
    obtain ⟨a, ha, rfl⟩ := List.mem_map.mp hx
    rw [he a ha]) (by rw [List.length_map]; exact hz)
  rw [this, List.map_map]
  congr 3
  refine List.map_congr_left fun a ha => ?_
  show (match e (ρ.set v (some (item a))) with | .ok (r, _) => r | _ => .non) = y a
  rw [he a ha]
theorem mem_set_or {α : Type} {l : List α} {i : Nat} {a x : α} (h : x ∈ l.set i a) : x = a ∨ x ∈ l := by
  rcases List.mem_or_eq_of_mem_set h with h | h
  · exact .inr h
  · exact .inl h
theorem at_map {α : Type} (f : α → MV) {l : List α} {k : Nat} (h : k < l.length) : atI (l.map f) (k : Int) = some (f l[k]) := by
  rw [atI_ge (by omega), Int.toNat_natCast, List.getElem?_map, List.getElem?_eq_getElem h]; rfl
theorem setIx_k {i : Nat} {ρ : Env} {R : List MV} {k : Nat} {z : MV} (h : ρ[i]? = some (some (.own R))) (hk : k < R.length) : setIxM i z (.int k) ρ = .ok (.nx, ρ.set i (some (.own (R.set k z)))) := setIxM_o h (by rw [ixN_at ⟨by omega, by omega⟩]; simp)
theorem rng_one12 (k : Int) (m : Nat) : rngM k 1 (m + 1) = .int k :: rngM (k + 1) 1 m := by
  unfold rngM
  rw [List.range_succ_eq_map, List.map_cons, List.map_map]
  congr 1
  · simp
  · apply List.map_congr_left
    intro i _
    show MV.int _ = MV.int _
    congr 1
    simp; omega
def okJ : Nat → MV → Bool
  | _, .non => true
  | _, .bl _ => true
  | _, .int _ => true
  | _, .str _ => true
  | n + 1, .tup xs => xs.all (okJ n) && decide (xs.length ≤ 1000)
  | _, _ => false
theorem lsome_rowR {N nt : Nat} (hN : 1 ≤ N ∧ N ≤ 256) (hnt : nt ≤ 100) (c0 salt : Int) : ∃ r : Rw, okN N nt r = true ∧ f_lsome_row [.int c0, .int salt, .int N, .int nt] = .ok (enR r, []) := by
  obtain ⟨ds, hd, hds⟩ := ldraws_ok c0 salt [12, 256, 256, 256] (by decide) (by decide)
  simp only [draws_cons, draws_nil] at hd
  obtain ⟨d0, _, rfl, u0, d1, _, rfl, u1, d2, _, rfl, u2, d3, _, rfl, u3, rfl⟩ := hd
  obtain ⟨a, rfl⟩ : ∃ a : Nat, d1 = a := ⟨d1.toNat, by omega⟩
  obtain ⟨b, rfl⟩ : ∃ b : Nat, d2 = b := ⟨d2.toNat, by omega⟩
  obtain ⟨v, rfl⟩ : ∃ b : Nat, d3 = b := ⟨d3.toNat, by omega⟩
  simp at hds
  have dN : divOk (N : Int) = true := divOk_small (by omega) (by omega)
  have nz : ¬ (N : Int) = 0 := by omega
  have nz2 : ¬ N = 0 := by omega
  have d2' : divOk 2 = true := by decide
  have eA : (a : Int).fmod (N : Int) = ((a % N : Nat) : Int) := nat_fmod a N
  have eB : (b : Int).fmod (N : Int) = ((b % N : Nat) : Int) := nat_fmod b N
  have e2 : (v : Int).fmod 2 = ((v % 2 : Nat) : Int) := nat_fmod v 2
  have lA : a % N < N := Nat.mod_lt _ (by omega)
  have lB : b % N < N := Nat.mod_lt _ (by omega)
  have l2 : v % 2 < 2 := Nat.mod_lt _ (by decide)
  have hv : v < 256 := by omega
  have iL : fIn (.str "left") (.tup [.str "left", .str "right"]) = some (.bl true) := rfl
  have iR : fIn (.str "right") (.tup [.str "left", .str "right"]) = some (.bl true) := rfl
  have i1 : fIn (.str "put") (.tup [.str "left", .str "right"]) = some (.bl false) := rfl
  have i2 : fIn (.str "copy") (.tup [.str "left", .str "right"]) = some (.bl false) := rfl
  have i3 : fIn (.str "add") (.tup [.str "left", .str "right"]) = some (.bl false) := rfl
  have i4 : fIn (.str "addc") (.tup [.str "left", .str "right"]) = some (.bl false) := rfl
  have i5 : fIn (.str "and") (.tup [.str "left", .str "right"]) = some (.bl false) := rfl
  have i6 : fIn (.str "or") (.tup [.str "left", .str "right"]) = some (.bl false) := rfl
  have i7 : fIn (.str "look") (.tup [.str "left", .str "right"]) = some (.bl false) := rfl
  generalize a % N = aN at *
  generalize hbN : b % N = bN at *
  generalize v % 2 = v2 at *
  have key : ∀ r : Rw, okN N nt r = true → (∃ ρ, m_lsome_row [some (.int c0), some (.int salt), some (.int N), some (.int nt), none, none, none, none, none] = .ok (.rt (enR r), ρ)) → ∃ r : Rw, okN N nt r = true ∧ f_lsome_row [.int c0, .int salt, .int N, .int nt] = .ok (enR r, []) := fun r h1 h3 => ⟨r, h1, mFn_ok h3⟩
  rcases (show d0 = 0 ∨ d0 = 1 ∨ d0 = 2 ∨ d0 = 3 ∨ d0 = 4 ∨ d0 = 5 ∨ d0 = 6 ∨ d0 = 7 ∨ d0 = 8 ∨ d0 = 9 ∨ d0 = 10 ∨ d0 = 11 by omega) with rfl | rfl | rfl | rfl | rfl | rfl | rfl | rfl | rfl | rfl | rfl | rfl
  · exact key (.put aN v) (by simp [okN, lA, hv]) (by simp [m_lsome_row, hds, szOk_small, dN, nz, nz2, i1, eA, enR])
  · exact key (.copy aN bN) (by simp [okN, lA, lB]) (by simp [m_lsome_row, hds, szOk_small, dN, nz, nz2, i2, eA, eB, enR])
  · exact key (.add aN bN) (by simp [okN, lA, lB]) (by simp [m_lsome_row, hds, szOk_small, dN, nz, nz2, i3, eA, eB, enR])
  · exact key (.addc aN bN) (by simp [okN, lA, lB]) (by simp [m_lsome_row, hds, szOk_small, dN, nz, nz2, i4, eA, eB, enR])
  · exact key (.and_ aN bN) (by simp [okN, lA, lB]) (by simp [m_lsome_row, hds, szOk_small, dN, nz, nz2, i5, eA, eB, enR])
  · exact key (.or_ aN bN) (by simp [okN, lA, lB]) (by simp [m_lsome_row, hds, szOk_small, dN, nz, nz2, i6, eA, eB, enR])
  · exact key (.left aN) (by simp [okN, lA]) (by simp [m_lsome_row, hds, szOk_small, dN, nz, nz2, iL, eA, enR])
  · exact key (.right aN) (by simp [okN, lA]) (by simp [m_lsome_row, hds, szOk_small, dN, nz, nz2, iR, eA, enR])
  · by_cases ht : nt = 0
    · subst ht
      exact key (.copy aN bN) (by simp [okN, lA, lB]) (by simp [m_lsome_row, hds, szOk_small, dN, nz, nz2, i2, eA, eB, enR])
    · have dT : divOk (nt : Int) = true := divOk_small (by omega) (by omega)
      have nT : ¬ (nt : Int) = 0 := by omega
      have eT : (b : Int).fmod (nt : Int) = ((b % nt : Nat) : Int) := nat_fmod b nt
      have lT : b % nt < nt := Nat.mod_lt _ (by omega)
      generalize b % nt = bT at *
      exact key (.look aN bT) (by simp [okN, lA, lT]) (by simp [m_lsome_row, hds, szOk_small, dN, nz, nz2, dT, nT, ht, i7, eA, eT, enR])
  · exact key (.mark v2) (by simp [okN, l2]) (by simp [m_lsome_row, hds, szOk_small, dN, nz, nz2, d2', e2, enR])
  · exact key (.add aN bN) (by simp [okN, lA, lB]) (by simp [m_lsome_row, hds, szOk_small, dN, nz, nz2, i3, eA, eB, enR])
  · exact key (.left aN) (by simp [okN, lA]) (by simp [m_lsome_row, hds, szOk_small, dN, nz, nz2, iL, eA, enR])
theorem lmenuR {N nt : Nat} (hN : 1 ≤ N ∧ N ≤ 256) (hnt : nt ≤ 100) (ns : List Int) (at_ : Nat) : ∃ rs : List Rw, rs.all (okN N nt) = true ∧ 1 ≤ rs.length ∧ rs.length ≤ 4 ∧ f_lmenu [.scr ns, .int at_, .int N, .int nt] = .ok (.tup (rs.map enR), []) := by
  obtain ⟨c0, hc0⟩ := lcell_ok ns at_
  obtain ⟨ds, hd, hds⟩ := ldraws_ok c0 (3 + (at_ : Int)) [4, 4, 4] (by decide) (by decide)
  simp only [draws_cons, draws_nil] at hd
  obtain ⟨d0, _, rfl, u0, d1, _, rfl, u1, d2, _, rfl, u2, rfl⟩ := hd
  obtain ⟨n0, rfl⟩ : ∃ x : Nat, d0 = x := ⟨d0.toNat, by omega⟩
  have rw1 : ∀ k : Nat, ∃ r : Rw, okN N nt r = true ∧ ∃ c : Int, f_lcell [.scr ns, .int ((at_ : Int) + 1 + k)] = .ok (.int c, []) ∧ f_lsome_row [.int c, .int (11 + 7 * (k : Int)), .int N, .int nt] = .ok (enR r, []) := by
    intro k
    obtain ⟨c, hc⟩ := lcell_ok ns (at_ + 1 + k)
    obtain ⟨r, h1, h3⟩ := lsome_rowR hN hnt c (11 + 7 * (k : Int))
    have e : (((at_ + 1 + k : Nat)) : Int) = (at_ : Int) + 1 + k := by omega
    rw [e] at hc
    exact ⟨r, h1, c, hc, h3⟩
  obtain ⟨R, hR⟩ := Classical.axiomOfChoice rw1
  have ir : inR (1 + (n0 : Int)) = true := inR_of (by omega) (by omega)
  have ln : (rngM 0 1 (n0 + 1)).length = n0 + 1 := rngM_len
  have er : ∀ r : Rw, ∃ ys, enR r = .tup ys := fun r => by cases r <;> exact ⟨_, rfl⟩
  have lc := mLcO_nm (it := mR1 (mCons (mOp fAdd (mC (.int 1)) (mVar 5)) (mNil))) (e := mFz (mCall0 f_lsome_row (mCons (mFz (mCall0 f_lcell (mCons (mVar 0) (mCons (mOp fAdd (mOp fAdd (mVar 1) (mC (.int 1))) (mVar 8)) (mNil))))) (mCons (mOp fAdd (mC (.int 11)) (mOp fMul (mC (.int 7)) (mVar 8))) (mCons (mVar 2) (mCons (mVar 3) (mNil))))))) (v := 8) (xs := rngM 0 1 (n0 + 1)) (fun z => match z with | .int i => enR (R i.toNat) | _ => .non)
    (ρ := [some (.scr ns), some (.int at_), some (.int N), some (.int nt), none, some (.int n0), some (.int d1), some (.int d2), none]) (by
      have e1 : (1 + (n0 : Int)).toNat = n0 + 1 := by omega
      simp [ir, e1]) rfl (by
      intro z hz
      obtain ⟨i, hi, rfl⟩ := List.mem_map.mp hz
      have hi := List.mem_range.mp hi
      obtain ⟨_, c, hc, h3⟩ := hR i
      have m7 : mulOk 7 (i : Int) = true := mulOk_r (by omega) (by omega)
      have e0 : (0 : Int) + (i : Int) * 1 = i := by omega
      rw [e0]
      obtain ⟨ys, ea⟩ := er (R i)
      rw [ea] at h3
      simp [hc, m7, h3]
      rw [ea]) (by rw [sizeLine_eq, ln]; omega)
  have e8 : ((rngM 0 1 (n0 + 1)).map fun z => match z with | .int i => enR (R i.toNat) | _ => .non) = ((List.range (n0 + 1)).map R).map enR := by
    unfold rngM
    rw [List.map_map, List.map_map]
    apply List.map_congr_left
    intro i _
    show enR (R _) = enR (R _)
    simp
  rw [e8] at lc
  obtain ⟨rs0, hrs0⟩ : ∃ l, (List.range (n0 + 1)).map R = l := ⟨_, rfl⟩
  have l0 : rs0.length = n0 + 1 := by rw [← hrs0]; simp
  have b0 : ∀ r ∈ rs0, okN N nt r = true := by
    intro r hr
    rw [← hrs0] at hr
    obtain ⟨i, _, rfl⟩ := List.mem_map.mp hr
    exact (hR i).1
  rw [hrs0] at lc
  have bt : ∀ L : List MV, bTuple [.lst L] = some (.tup L) := fun _ => rfl
  have hc0 : f_lcell [.scr ns, .int at_] = .ok (.int c0, []) := hc0
  simp at hds
  by_cases h1 : d1 = 1
  · obtain ⟨p, hp, pb⟩ : ∃ p : Nat, d2.fmod (rs0.length : Int) = (p : Int) ∧ p < rs0.length := by
      have g1 := @fmod_ge' d2 (rs0.length : Int) (by omega)
      have g2 := @fmod_lt' d2 (rs0.length : Int) (by omega)
      exact ⟨(d2.fmod (rs0.length : Int)).toNat, by omega, by omega⟩
    have h00 : 0 < rs0.length := by omega
    have a0 : atI (rs0.map enR) 0 = some (enR rs0[0]) := at_map enR h00
    refine ⟨rs0.set p rs0[0], ?_, by rw [List.length_set]; omega, by rw [List.length_set]; omega, mFn_ok ?_⟩
    · rw [List.all_eq_true]
      intro r hr
      rcases mem_set_or hr with rfl | hr
      · exact b0 _ (List.getElem_mem h00)
      · exact b0 r hr
    · have lR : (rs0.map enR).length = rs0.length := List.length_map ..
      have si := @setIx_k 4 [some (.scr ns), some (.int at_), some (.int N), some (.int nt), some (.own (rs0.map enR)), some (.int n0), some (.int d1), some (.int d2), none] (rs0.map enR) p (enR rs0[0]) rfl (by rw [lR]; exact pb)
      rw [← List.map_set] at si
      have dN : divOk (rs0.length : Int) = true := divOk_small (by omega) (by omega)
      have nz : ¬ (rs0 = []) := by intro e; rw [e] at h00; simp at h00
      have nz2 : ¬ rs0.length = 0 := by omega
      generalize (rs0.set p rs0[0]).map enR = R2 at *
      generalize enR rs0[0] = E0 at *
      generalize rs0.map enR = R1 at *
      subst h1
      have gv : ixV [some (MV.scr ns), some (.int at_), some (.int N), some (.int nt), some (.own R1), some (.int n0), some (.int 1), some (.int d2), none] 4 (.int 0) = some E0 := by simpa [ixV, ixL] using a0
      simp [m_lmenu, hc0, hds, szOk_small, lc, gv, lR, hp, nz, nz2, dN, si, bt]
  · refine ⟨rs0, List.all_eq_true.mpr b0, by omega, by omega, mFn_ok ?_⟩
    generalize rs0.map enR = R1 at *
    simp [m_lmenu, hc0, hds, szOk_small, lc, h1, bt]
theorem lsome_tableB (c0 salt : Int) : ∃ f : Nat → Nat, (∀ v, f v < 256) ∧ f_lsome_table [.int c0, .int salt] = .ok (.tup ((List.range 256).map fun v => .int (f v)), []) := by
  obtain ⟨ds, hd, hds⟩ := ldraws_ok c0 salt [4, 256, 256, 65519] (by decide) (by decide)
  simp only [draws_cons, draws_nil] at hd
  obtain ⟨d0, _, rfl, u0, d1, _, rfl, u1, d2, _, rfl, u2, d3, _, rfl, u3, rfl⟩ := hd
  obtain ⟨n1, rfl⟩ : ∃ x : Nat, d1 = x := ⟨d1.toNat, by omega⟩
  obtain ⟨n2, rfl⟩ : ∃ x : Nat, d2 = x := ⟨d2.toNat, by omega⟩
  obtain ⟨n3, rfl⟩ : ∃ x : Nat, d3 = x := ⟨d3.toNat, by omega⟩
  simp at hds
  have ir : inR 256 = true := inR_of (by decide) (by decide)
  have eT : ∀ f : Nat → Nat, ((rngM 0 1 256).map fun z => match z with | .int i => MV.int (f i.toNat : Nat) | _ => .non) = (List.range 256).map fun v => MV.int (f v : Nat) := by
    intro f
    unfold rngM
    rw [List.map_map]
    apply List.map_congr_left
    intro i _
    show MV.int _ = MV.int _
    simp
  have key : ∀ f : Nat → Nat, (∀ v, f v % 256 = f v % 256) → (∃ ρ, m_lsome_table [some (.int c0), some (.int salt), none, none, none, none, none] = .ok (.rt (.tup ((List.range 256).map fun v => .int ((f v % 256 : Nat) : Int))), ρ)) → ∃ f : Nat → Nat, (∀ v, f v < 256) ∧ f_lsome_table [.int c0, .int salt] = .ok (.tup ((List.range 256).map fun v => .int (f v)), []) := fun f _ h => ⟨fun v => f v % 256, fun v => Nat.mod_lt _ (by decide), mFn_ok h⟩
  have bt : ∀ L : List MV, bTuple [.lst L] = some (.tup L) := fun _ => rfl
  have d256 : divOk 256 = true := by decide
  have d65 : divOk 65519 = true := by decide
  have d7 : divOk 7 = true := by decide
  have ρE : ∀ {e : ME} (f : Nat → Nat), (∀ i : Nat, i < 256 → e [some (.int c0), some (.int salt), some (.int d0), some (.int n1), some (.int n2), some (.int n3), some (.int i)] = .ok (.int (f i : Nat), [some (.int c0), some (.int salt), some (.int d0), some (.int n1), some (.int n2), some (.int n3), some (.int i)])) →
      mLcO (mR1 (mCons (mC (.int 256)) (mNil))) (.nm 6) (mYes) e [6] [some (.int c0), some (.int salt), some (.int d0), some (.int n1), some (.int n2), some (.int n3), none] = .ok (.own ((List.range 256).map fun v => .int (f v : Nat)), [some (.int c0), some (.int salt), some (.int d0), some (.int n1), some (.int n2), some (.int n3), none]) := by
    intro e f he
    have lc := mLcO_nm (it := mR1 (mCons (mC (.int 256)) (mNil))) (e := e) (v := 6) (xs := rngM 0 1 256) (fun z => match z with | .int i => .int (f i.toNat : Nat) | _ => .non)
      (ρ := [some (.int c0), some (.int salt), some (.int d0), some (.int n1), some (.int n2), some (.int n3), none]) (by simp [ir]) rfl (by
        intro z hz
        obtain ⟨i, hi, rfl⟩ := List.mem_map.mp hz
        have h := he i (List.mem_range.mp hi)
        simpa using h) (by rw [sizeLine_eq, rngM_len]; decide)
    rw [eT] at lc
    exact lc
  rcases (show d0 = 0 ∨ d0 = 1 ∨ (¬ d0 = 0 ∧ ¬ d0 = 1) by omega) with rfl | rfl | ⟨e0, e1⟩
  · have lc := ρE (e := mOp fMod (mOp fAdd (mVar 6) (mVar 3)) (mC (.int 256))) (fun i => (i + n1) % 256) (fun i _ => by
      have q := nat_fmod (i + n1) 256
      simp at q
      simp [d256, q])
    refine key (fun i => i + n1) (fun _ => rfl) ?_
    generalize (List.range 256).map (fun v => MV.int (((v + n1) % 256 : Nat) : Int)) = L at *
    simp [m_lsome_table, hds, szOk_small, lc, bt]
  · have lc := ρE (e := mOp fSub (mC (.int 255)) (mVar 6)) (fun i => (255 - i) % 256) (fun i hi => by
      have q : (255 : Int) - i = (((255 - i) % 256 : Nat) : Int) := by rw [Nat.mod_eq_of_lt (by omega)]; omega
      simp only [mOp_ap, mC_ap, mVar_ap, Res.bind, List.getElem?_cons_succ, List.getElem?_cons_zero]
      simp [q])
    refine key (fun i => 255 - i) (fun _ => rfl) ?_
    generalize (List.range 256).map (fun v => MV.int (((255 - v) % 256 : Nat) : Int)) = L at *
    simp [m_lsome_table, hds, szOk_small, lc, bt]
  · have lc := ρE (e := mOp fMod (mOp fDiv (mOp fMod (mOp fAdd (mOp fAdd (mOp fMul (mOp fMul (mVar 5) (mVar 6)) (mVar 6)) (mOp fMul (mVar 4) (mVar 6))) (mVar 3)) (mC (.int 65519))) (mC (.int 7))) (mC (.int 256))) (fun i => ((n3 * i * i + n2 * i + n1) % 65519 / 7) % 256) (fun i hi => by
      have m1 : mulOk (n3 : Int) (i : Int) = true := mulOk_r (by omega) (by omega)
      have m2 : mulOk ((n3 : Int) * i) (i : Int) = true := mulOk_r (by omega) (by omega)
      have m3 : mulOk (n2 : Int) (i : Int) = true := mulOk_r (by omega) (by omega)
      have q1 : ((n3 : Int) * i * i + n2 * i + n1).fmod 65519 = (((n3 * i * i + n2 * i + n1) % 65519 : Nat) : Int) := by
        have := nat_fmod (n3 * i * i + n2 * i + n1) 65519
        simp at this
        simp [this]
      have q2 : (((n3 * i * i + n2 * i + n1) % 65519 : Nat) : Int).fdiv 7 = (((n3 * i * i + n2 * i + n1) % 65519 / 7 : Nat) : Int) := nat_fdiv _ 7
      have q3 : (((n3 * i * i + n2 * i + n1) % 65519 / 7 : Nat) : Int).fmod 256 = (((n3 * i * i + n2 * i + n1) % 65519 / 7 % 256 : Nat) : Int) := nat_fmod _ 256
      generalize (n3 * i * i + n2 * i + n1) % 65519 / 7 % 256 = y3 at *
      generalize (n3 * i * i + n2 * i + n1) % 65519 / 7 = y2 at *
      generalize (n3 * i * i + n2 * i + n1) % 65519 = y1 at *
      simp [m1, m2, m3, d256, d65, d7, q1, q2, q3])
    refine key (fun i => (n3 * i * i + n2 * i + n1) % 65519 / 7) (fun _ => rfl) ?_
    generalize (List.range 256).map (fun v => MV.int (((n3 * v * v + n2 * v + n1) % 65519 / 7 % 256 : Nat) : Int)) = L at *
    simp [m_lsome_table, hds, szOk_small, e0, e1, lc, bt]
abbrev StA := List (List Nat × Nat)
def enS (s : StA) : MV := .tup (s.map fun p => .tup [.tup (encC p.1), .int p.2])
def enW (w : List Nat) : MV := .tup (encC w)
def StOk (N : Nat) (s : StA) : Prop := ∀ p ∈ s, CellsN N p.1 ∧ p.2 < 2
def behA (tb : Nat → Nat → Nat) (r : Rw) (s : StA) : StA := s.map fun p => runL tb [r] p
theorem behA_ok {tb : Nat → Nat → Nat} {nt N : Nat} (hb : TabLt tb nt) {r : Rw} (hr : okN N nt r = true) {s : StA} (h : StOk N s) : StOk N (behA tb r s) := by
  intro p hp
  obtain ⟨q, hq, rfl⟩ := List.mem_map.mp hp
  obtain ⟨h1, h2⟩ := h q hq
  exact run_cellsN hb [r] q.1 q.2 h1 h2 (by simp [hr])
theorem behA_len (tb : Nat → Nat → Nat) (r : Rw) (s : StA) : (behA tb r s).length = s.length := List.length_map ..
def nkN (l : List Nat) : List NestedKey := l.map fun d : Nat => .num d
def nkS (s : StA) : NestedKey := .tup (s.map fun p => .tup [.tup (nkN p.1), .num p.2])
theorem nkIs_ints : ∀ l : List Nat, nkIs (encC l) = some (nkN l)
  | [] => by unfold nkN encC; rw [List.map_nil]; unfold nkIs; rfl
  | d :: l => by
    show nkIs (.int d :: encC l) = some (.num d :: nkN l)
    rw [nkIs, nkIs_ints l]
    unfold nkI
    rfl
theorem nkIs_pairs : ∀ s : StA, nkIs (s.map fun p => .tup [.tup (encC p.1), .int p.2]) = some (s.map fun p => .tup [.tup (nkN p.1), .num p.2])
  | [] => by rw [List.map_nil]; unfold nkIs; rfl
  | p :: s => by
    rw [List.map_cons, nkIs, nkIs_pairs s]
    have : nkI (.tup [.tup (encC p.1), .int p.2]) = some (.tup [.tup (nkN p.1), .num p.2]) := by
      unfold nkI
      rw [nkIs, nkIs, nkIs]
      have a : nkI (.tup (encC p.1)) = some (.tup (nkN p.1)) := by unfold nkI; rw [nkIs_ints]; rfl
      have b : nkI (.int p.2) = some (.num p.2) := by unfold nkI; rfl
      rw [a, b]
      rfl
    rw [this]
    rfl
theorem nkI_S (s : StA) : nkI (enS s) = some (nkS s) := by
  unfold enS nkI
  rw [nkIs_pairs]
  rfl
theorem dep_N : ∀ l : List Nat, NestedKey.depthAll (nkN l) = 0
  | [] => rfl
  | d :: l => by
    show max (NestedKey.depth (.num d)) (NestedKey.depthAll (nkN l)) = 0
    rw [dep_N l]; rfl
theorem dep_P : ∀ s : StA, NestedKey.depthAll (s.map fun p => .tup [.tup (nkN p.1), .num p.2]) ≤ 2
  | [] => by decide
  | p :: s => by
    show max (NestedKey.depth (.tup [.tup (nkN p.1), .num p.2])) (NestedKey.depthAll (s.map fun p => .tup [.tup (nkN p.1), .num p.2])) ≤ 2
    have h1 := dep_P s
    have h2 : NestedKey.depth (.tup [.tup (nkN p.1), .num p.2]) = 2 := by
      show max (NestedKey.depthAll (nkN p.1) + 1) (max 0 0) + 1 = 2
      rw [dep_N]; rfl
    rw [h2]
    omega
theorem nkK_S (s : StA) : nkK (enS s) = some (nkS s) := by
  have h := nkI_S s
  have d : (nkS s).depth ≤ 8 := by
    show NestedKey.depthAll (s.map fun p => .tup [.tup (nkN p.1), .num p.2]) + 1 ≤ 8
    have := dep_P s
    omega
  unfold enS at h ⊢
  show (match nkI (.tup (s.map fun p => .tup [.tup (encC p.1), .int p.2])) with | some k => if k.depth ≤ 8 then some k else none | none => none) = _
  rw [h]
  show (if (nkS s).depth ≤ 8 then some (nkS s) else none) = _
  rw [if_pos d]
theorem nkN_inj : ∀ {a b : List Nat}, nkN a = nkN b → a = b
  | [], [], _ => rfl
  | [], _ :: _, h => by cases h
  | _ :: _, [], h => by cases h
  | x :: a, y :: b, h => by
    have h : NestedKey.num x :: nkN a = .num y :: nkN b := h
    injection h with h1 h2
    injection h1 with h1
    rw [nkN_inj h2, Int.ofNat.inj h1]
theorem nkS_inj : ∀ {a b : StA}, nkS a = nkS b → a = b := by
  intro a b h
  unfold nkS at h
  injection h with h
  induction a generalizing b with
  | nil =>
    cases b with
    | nil => rfl
    | cons _ _ => cases h
  | cons p a ih =>
    cases b with
    | nil => cases h
    | cons q b =>
      rw [List.map_cons, List.map_cons] at h
      injection h with h1 h2
      injection h1 with h1
      injection h1 with h3 h4
      injection h3 with h3
      injection h4 with h4 _
      injection h4 with h4
      rw [ih h2]
      have e1 := nkN_inj h3
      have e2 : p.2 = q.2 := Int.ofNat.inj h4
      rw [show p = q from Prod.ext e1 e2]
def dK (D : List (StA × List Nat)) : List MV := D.map fun p => enS p.1
def dX (D : List (StA × List Nat)) : List MV := D.map fun p => enW p.2
def dFind (D : List (StA × List Nat)) (s : StA) : Option (List Nat) := (D.find? fun p => decide (p.1 = s)).map (·.2)
theorem ndAt_S (D : List (StA × List Nat)) (s : StA) : ndAt (dK D) (dX D) (nkS s) = (dFind D s).map enW := by
  unfold ndAt dK dX dFind
  induction D with
  | nil => rfl
  | cons p D ih =>
    rw [List.map_cons, List.map_cons, List.zip_cons_cons, List.find?_cons, List.find?_cons, nkI_S]
    by_cases e : p.1 = s
    · rw [e]
      simp
    · have e2 : ¬ some (nkS p.1) = some (nkS s) := fun z => e (nkS_inj (Option.some.inj z))
      rw [decide_eq_false e2, decide_eq_false e]
      exact ih
theorem ndPut_new {D : List (StA × List Nat)} {s : StA} (h : dFind D s = none) (w : List Nat) : ndPut (dK D) (dX D) (enS s) (nkS s) (enW w) = (dK (D ++ [(s, w)]), dX (D ++ [(s, w)])) := by
  unfold ndPut
  rw [ndAt_S, h]
  unfold dK dX
  simp
theorem dK_len (D : List (StA × List Nat)) : (dK D).length = D.length := List.length_map ..
theorem pbehind_eq {tb : Nat → Nat → Nat} {nt N : Nat} {tabs : List MV} (ht : TabsAre tb nt tabs) (hb : TabLt tb nt) (hN : N ≤ 256) {r : Rw} (hr : okN N nt r = true) {s : StA} (h : StOk N s) (hl : s.length ≤ 1000) :
    f_pbehind_row [.tup tabs, enR r, enS s] = .ok (enS (behA tb r s), []) := by
  have lp : ∀ (t : StA) (F : StA) (x4 x5 x6 : Option MV), StOk N t → F.length + t.length ≤ 1000 → ∃ y4 y5 y6, mLoop (gTp 2 (gsCons (gSet 4) (gsCons (gSet 5) gsNil))) b_pbehind_row_0 (t.map fun p => .tup [.tup (encC p.1), .int p.2]) [some (.tup tabs), some (enR r), some (enS s), some (.own (F.map fun p => .tup [.tup (encC p.1), .int p.2])), x4, x5, x6] =
      .ok (.nx, [some (.tup tabs), some (enR r), some (enS s), some (.own ((F ++ behA tb r t).map fun p => .tup [.tup (encC p.1), .int p.2])), y4, y5, y6]) := by
    intro t
    induction t with
    | nil => intro F x4 x5 x6 _ _; exact ⟨x4, x5, x6, by rw [show behA tb r [] = [] from rfl, List.append_nil]; rfl⟩
    | cons p t ih =>
      intro F x4 x5 x6 ho hl
      obtain ⟨h1, h2⟩ := ho p (List.mem_cons_self ..)
      obtain ⟨y4, y5, y6, e⟩ := ih (F ++ [runL tb [r] p]) (some (.tup (encC p.1))) (some (.int (runL tb [r] p).2)) (some (.lst (encC (runL tb [r] p).1))) (fun q hq => ho q (List.mem_cons_of_mem _ hq)) (by simp at hl ⊢; omega)
      refine ⟨y4, y5, y6, ?_⟩
      have st := pstep_eq ht h1 h2 r hr
      have st : f_pstep [.tup tabs, enR r, .own (encC p.1), .int p.2] = .ok (.int (runL tb [r] p).2, [some (.own (encC (runL tb [r] p).1))]) := st
      have c1 : (encC p.1).length ≤ sizeLine := by unfold encC; rw [List.length_map, h1.1, sizeLine_eq]; omega
      have lF : (F.map fun p : List Nat × Nat => MV.tup [.tup (encC p.1), .int p.2]).length < sizeLine := by rw [List.length_map, sizeLine_eq]; simp at hl; omega
      have bo : b_pbehind_row_0 [some (.tup tabs), some (enR r), some (enS s), some (.own (F.map fun p => .tup [.tup (encC p.1), .int p.2])), some (.tup (encC p.1)), some (.int p.2), x6] =
          .ok (.nx, [some (.tup tabs), some (enR r), some (enS s), some (.own ((F ++ [runL tb [r] p]).map fun p => .tup [.tup (encC p.1), .int p.2])), some (.tup (encC p.1)), some (.int (runL tb [r] p).2), some (.lst (encC (runL tb [r] p).1))]) := by
        rw [List.map_append, List.map_singleton]
        have bt : ∀ L : List MV, bTuple [.lst L] = some (.tup L) := fun _ => rfl
        have tE : ∃ X, enR r = .tup X := by cases r <;> exact ⟨_, rfl⟩
        have tS : ∃ X, enS s = .tup X := ⟨_, rfl⟩
        generalize (F.map fun p : List Nat × Nat => MV.tup [.tup (encC p.1), .int p.2]) = FF at *
        generalize encC (runL tb [r] p).1 = C1 at *
        generalize (runL tb [r] p).2 = m1 at *
        generalize encC p.1 = C0 at *
        generalize enS s = SS at *
        generalize enR r = RR at *
        obtain ⟨X, rfl⟩ := tE
        obtain ⟨X2, rfl⟩ := tS
        simp [b_pbehind_row_0, c1, bList, st, bt, lF, szOk_small]
      show (b_pbehind_row_0 [some (.tup tabs), some (enR r), some (enS s), some (.own (F.map fun p => .tup [.tup (encC p.1), .int p.2])), some (.tup (encC p.1)), some (.int p.2), x6]).bind _ = _
      rw [bo]
      rw [List.append_assoc] at e
      exact e
  obtain ⟨y4, y5, y6, e⟩ := lp s [] none none none h (by simpa using hl)
  refine mFn_ok ⟨[some (.tup tabs), some (enR r), some (enS s), some (.lst ((behA tb r s).map fun p => .tup [.tup (encC p.1), .int p.2])), y4, y5, y6], ?_⟩
  rw [List.nil_append, List.map_nil] at e
  have bt : ∀ L : List MV, bTuple [.lst L] = some (.tup L) := fun _ => rfl
  have tE : ∃ X, enR r = .tup X := by cases r <;> exact ⟨_, rfl⟩
  have tS : enS s = .tup (s.map fun p => .tup [.tup (encC p.1), .int p.2]) := rfl
  have tS2 : enS (behA tb r s) = .tup ((behA tb r s).map fun p => .tup [.tup (encC p.1), .int p.2]) := rfl
  rw [tS] at e ⊢
  rw [tS2]
  generalize (behA tb r s).map (fun p : List Nat × Nat => MV.tup [.tup (encC p.1), .int p.2]) = B at *
  generalize s.map (fun p : List Nat × Nat => MV.tup [.tup (encC p.1), .int p.2]) = A at *
  generalize enR r = RR at *
  obtain ⟨X, rfl⟩ := tE
  show m_pbehind_row [some (.tup tabs), some (.tup X), some (.tup A), none, none, none, none] = _
  simp [m_pbehind_row, e, bt, szOk_small]
def stAdd (tb : Nat → Nat → Nat) (s : StA) (w : List Nat) (DF : List (StA × List Nat) × List StA) (k : Nat) (r : Rw) : List (StA × List Nat) × List StA :=
  if (dFind DF.1 (behA tb r s)).isSome then DF else (DF.1 ++ [(behA tb r s, w ++ [k])], DF.2 ++ [behA tb r s])
def stRows (tb : Nat → Nat → Nat) (s : StA) (w : List Nat) : List Rw → Nat → List (StA × List Nat) × List StA → List (StA × List Nat) × List StA
  | [], _, DF => DF
  | r :: rs, k, DF => stRows tb s w rs (k + 1) (stAdd tb s w DF k r)
def stLay (tb : Nat → Nat → Nat) (rs : List Rw) : List StA → List (StA × List Nat) × List StA → List (StA × List Nat) × List StA
  | [], DF => DF
  | s :: L, DF => stLay tb rs L (stRows tb s ((dFind DF.1 s).getD []) rs 0 DF)
def stTurns (tb : Nat → Nat → Nat) (rs : List Rw) : Nat → List (StA × List Nat) × List StA → List (StA × List Nat) × List StA
  | 0, DL => DL
  | n + 1, DL => stTurns tb rs n (stLay tb rs DL.2 (DL.1, []))
def DOk (N n0 : Nat) (D : List (StA × List Nat)) : Prop := ∀ p ∈ D, StOk N p.1 ∧ p.1.length = n0 ∧ p.2.length < D.length
theorem dFind_some {D : List (StA × List Nat)} {s : StA} {w : List Nat} (h : dFind D s = some w) : (s, w) ∈ D := by
  unfold dFind at h
  obtain ⟨p, h1, h2⟩ := Option.map_eq_some_iff.mp h
  have := List.find?_some h1
  have hm := List.mem_of_find?_eq_some h1
  simp at this
  rw [← this, ← h2]
  exact hm
theorem dFind_app {D : List (StA × List Nat)} {s : StA} {w : List Nat} (h : dFind D s = some w) (D2 : List (StA × List Nat)) : dFind (D ++ D2) s = some w := by
  unfold dFind at h ⊢
  obtain ⟨p, h1, h2⟩ := Option.map_eq_some_iff.mp h
  rw [List.find?_append, h1]
  exact congrArg some h2
theorem dFind_new {D : List (StA × List Nat)} {s : StA} {w : List Nat} (h : dFind D s = none) : dFind (D ++ [(s, w)]) s = some w := by
  unfold dFind at h ⊢
  rw [Option.map_eq_none_iff] at h
  rw [List.find?_append, h]
  simp
theorem stAdd_cases (tb : Nat → Nat → Nat) (s : StA) (w : List Nat) (DF : List (StA × List Nat) × List StA) (k : Nat) (r : Rw) :
    (stAdd tb s w DF k r = DF ∧ ∃ v, dFind DF.1 (behA tb r s) = some v) ∨ (stAdd tb s w DF k r = (DF.1 ++ [(behA tb r s, w ++ [k])], DF.2 ++ [behA tb r s]) ∧ dFind DF.1 (behA tb r s) = none) := by
  unfold stAdd
  cases h : dFind DF.1 (behA tb r s) with
  | none => exact .inr ⟨rfl, rfl⟩
  | some v => exact .inl ⟨rfl, v, rfl⟩
structure Grows (N n0 : Nat) (DF DF' : List (StA × List Nat) × List StA) (m : Nat) : Prop where
  ok : DOk N n0 DF.1 → DOk N n0 DF'.1
  old : ∀ s w, dFind DF.1 s = some w → dFind DF'.1 s = some w
  len : ∃ a, a ≤ m ∧ DF'.1.length = DF.1.length + a ∧ DF'.2.length = DF.2.length + a
  fr : (∀ s ∈ DF.2, ∃ w, dFind DF.1 s = some w) → ∀ s ∈ DF'.2, ∃ w, dFind DF'.1 s = some w
theorem Grows.refl {N n0 : Nat} {DF : List (StA × List Nat) × List StA} : Grows N n0 DF DF 0 := ⟨id, fun _ _ h => h, ⟨0, Nat.le_refl _, rfl, rfl⟩, id⟩
theorem Grows.trans {N n0 m m' : Nat} {A B C : List (StA × List Nat) × List StA} (h : Grows N n0 A B m) (h' : Grows N n0 B C m') : Grows N n0 A C (m + m') := by
  refine ⟨fun z => h'.ok (h.ok z), fun s w z => h'.old s w (h.old s w z), ?_, fun z => h'.fr (h.fr z)⟩
  obtain ⟨a, a1, a2, a3⟩ := h.len
  obtain ⟨b, b1, b2, b3⟩ := h'.len
  exact ⟨a + b, by omega, by omega, by omega⟩
theorem stAdd_grows {tb : Nat → Nat → Nat} {nt N n0 : Nat} (hb : TabLt tb nt) {s : StA} {w : List Nat} (DF : List (StA × List Nat) × List StA) (k : Nat) {r : Rw} (hr : okN N nt r = true) (hs : StOk N s) (hl : s.length = n0) (hw : w.length < DF.1.length) : Grows N n0 DF (stAdd tb s w DF k r) 1 := by
  rcases stAdd_cases tb s w DF k r with ⟨e, _⟩ | ⟨e, hn⟩
  · rw [e]
    exact ⟨id, fun _ _ h => h, ⟨0, by decide, rfl, rfl⟩, id⟩
  · rw [e]
    refine ⟨fun h p hp => ?_, fun t v h => dFind_app h _, ⟨1, Nat.le_refl _, by simp, by simp⟩, fun h t ht => ?_⟩
    · rw [List.length_append, List.length_singleton]
      rcases List.mem_append.mp hp with hp | hp
      · obtain ⟨h1, h2, h3⟩ := h p hp
        exact ⟨h1, h2, by omega⟩
      · rw [List.mem_singleton] at hp
        subst hp
        refine ⟨behA_ok hb hr hs, by rw [behA_len]; exact hl, ?_⟩
        simp
        omega
    · rcases List.mem_append.mp ht with ht | ht
      · obtain ⟨v, hv⟩ := h t ht
        exact ⟨v, dFind_app hv _⟩
      · rw [List.mem_singleton] at ht
        subst ht
        exact ⟨_, dFind_new hn⟩
theorem stRows_grows {tb : Nat → Nat → Nat} {nt N n0 : Nat} (hb : TabLt tb nt) {s : StA} {w : List Nat} (hs : StOk N s) (hl : s.length = n0) : ∀ (rs : List Rw) (k : Nat) (DF : List (StA × List Nat) × List StA), rs.all (okN N nt) = true → w.length < DF.1.length → Grows N n0 DF (stRows tb s w rs k DF) rs.length
  | [], _, _, _, _ => Grows.refl
  | r :: rs, k, DF, hr, hw => by
    rw [List.all_cons, Bool.and_eq_true] at hr
    have h1 := stAdd_grows (n0 := n0) hb DF k hr.1 hs hl hw
    obtain ⟨a, a1, a2, a3⟩ := h1.len
    have h2 := stRows_grows (w := w) hb hs hl rs (k + 1) (stAdd tb s w DF k r) hr.2 (by omega)
    have := h1.trans h2
    rw [List.length_cons, Nat.add_comm]
    exact this
theorem stLay_grows {tb : Nat → Nat → Nat} {nt N n0 : Nat} (hb : TabLt tb nt) {rs : List Rw} (hr : rs.all (okN N nt) = true) : ∀ (L : List StA) (DF : List (StA × List Nat) × List StA), DOk N n0 DF.1 → (∀ s ∈ L, ∃ w, dFind DF.1 s = some w) → Grows N n0 DF (stLay tb rs L DF) (L.length * rs.length)
  | [], DF, _, _ => by
    rw [List.length_nil, Nat.zero_mul]
    exact Grows.refl
  | s :: L, DF, hD, hL => by
    obtain ⟨w, hw⟩ := hL s (List.mem_cons_self ..)
    obtain ⟨o1, o2, o3⟩ := hD _ (dFind_some hw)
    have e : (dFind DF.1 s).getD [] = w := by rw [hw]; rfl
    have h1 := stRows_grows hb o1 o2 rs 0 DF hr (w := w) o3
    have h2 := stLay_grows hb hr L (stRows tb s w rs 0 DF) (h1.ok hD) fun t ht => by
      obtain ⟨v, hv⟩ := hL t (List.mem_cons_of_mem _ ht)
      exact ⟨v, h1.old t v hv⟩
    have h3 := h1.trans h2
    show Grows N n0 DF (stLay tb rs L (stRows tb s ((dFind DF.1 s).getD []) rs 0 DF)) ((L.length + 1) * rs.length)
    rw [e, Nat.add_mul, Nat.one_mul, Nat.add_comm]
    exact h3
theorem nkK_ndAt {D : List (StA × List Nat)} {s : StA} : (ndAt (dK D) (dX D) (nkS s)).isSome = (dFind D s).isSome := by rw [ndAt_S, Option.isSome_map]
theorem fAdd_w {w : List Nat} {k : Nat} (h : w.length ≤ 5000) : fAdd (enW w) (.tup [.int k]) = some (enW (w ++ [k])) := by
  have l : (encC w).length = w.length := by unfold encC; exact List.length_map ..
  have e : encC (w ++ [k]) = encC w ++ [.int k] := by unfold encC; rw [List.map_append]; rfl
  unfold enW
  rw [e]
  have z : szOk (w.length + 1) = true := szOk_small (by omega)
  simp [l, z]
theorem pall_row {tb : Nat → Nat → Nat} {nt N n0 : Nat} {tabs : List MV} (ht : TabsAre tb nt tabs) (hb : TabLt tb nt) (hN : N ≤ 256) {r : Rw} (hr : okN N nt r = true) {s : StA} (h : StOk N s) (hl : s.length ≤ 1000) {w : List Nat} {DF : List (StA × List Nat) × List StA} (hw : dFind DF.1 s = some w) (hwl : w.length ≤ 5000) (hD : DF.1.length ≤ 5000) (hF : DF.2.length ≤ 5000) (k : Nat)
    (x1 x2 x3 x4 x6 x7 x12 x13 x14 : Option MV) :
    b_pall_states_0 [some (.tup tabs), x1, x2, x3, x4, some (.dot (dK DF.1) (dX DF.1)), x6, x7, some (.own (DF.2.map enS)), some (enS s), some (.int k), some (enR r), x12, x13, x14] =
      .ok (.nx, [some (.tup tabs), x1, x2, x3, x4, some (.dot (dK (stAdd tb s w DF k r).1) (dX (stAdd tb s w DF k r).1)), x6, x7, some (.own ((stAdd tb s w DF k r).2.map enS)), some (enS s), some (.int k), some (enR r), some (enS (behA tb r s)), x13, x14]) := by
  have be := pbehind_eq ht hb hN hr h hl
  have n1 := nkK_S (behA tb r s)
  have n2 := nkK_S s
  have a1 := nkK_ndAt (D := DF.1) (s := behA tb r s)
  have a2 : ndAt (dK DF.1) (dX DF.1) (nkS s) = some (enW w) := by rw [ndAt_S, hw]; rfl
  have fa := fAdd_w (k := k) hwl
  have lD : (dK DF.1).length ≤ 10000 := by rw [dK_len]; omega
  have lF : (DF.2.map enS).length < sizeLine := by rw [List.length_map, sizeLine_eq]; omega
  have tE : ∃ X, enR r = .tup X := by cases r <;> exact ⟨_, rfl⟩
  have tS : ∃ X, enS s = .tup X := ⟨_, rfl⟩
  have tB : ∃ X, enS (behA tb r s) = .tup X := ⟨_, rfl⟩
  have tW : ∃ X, enW w = .tup X := ⟨_, rfl⟩
  have tW2 : ∃ X, enW (w ++ [k]) = .tup X := ⟨_, rfl⟩
  rcases stAdd_cases tb s w DF k r with ⟨e, v, hv⟩ | ⟨e, hn⟩
  · rw [e]
    have a1 : ndAt (dK DF.1) (dX DF.1) (nkS (behA tb r s)) = some (enW v) := by rw [ndAt_S, hv]; rfl
    generalize enS (behA tb r s) = B at *
    generalize enS s = S at *
    generalize enR r = RR at *
    generalize dK DF.1 = KK at *
    generalize dX DF.1 = XX at *
    generalize DF.2.map enS = FF at *
    obtain ⟨X, rfl⟩ := tE
    obtain ⟨X2, rfl⟩ := tS
    obtain ⟨X3, rfl⟩ := tB
    simp [b_pall_states_0, be, n1, a1]
  · rw [e]
    rw [hn] at a1
    have np := ndPut_new hn (w ++ [k])
    rw [List.map_append, List.map_singleton]
    generalize enS (behA tb r s) = B at *
    generalize enS s = S at *
    generalize enR r = RR at *
    generalize dK (DF.1 ++ [(behA tb r s, w ++ [k])]) = KK2 at *
    generalize dX (DF.1 ++ [(behA tb r s, w ++ [k])]) = XX2 at *
    generalize dK DF.1 = KK at *
    generalize dX DF.1 = XX at *
    generalize DF.2.map enS = FF at *
    generalize enW (w ++ [k]) = W2 at *
    generalize enW w = W1 at *
    obtain ⟨X, rfl⟩ := tE
    obtain ⟨X2, rfl⟩ := tS
    obtain ⟨X3, rfl⟩ := tB
    obtain ⟨X4, rfl⟩ := tW
    obtain ⟨X5, rfl⟩ := tW2
    simp at a1
    simp [b_pall_states_0, be, n1, n2, a1, a2, fa, np, lD, lF, szOk_small]
theorem pall_rows {tb : Nat → Nat → Nat} {nt N n0 : Nat} {tabs : List MV} (ht : TabsAre tb nt tabs) (hb : TabLt tb nt) (hN : N ≤ 256) {s : StA} (h : StOk N s) (hn : s.length = n0) (hl : n0 ≤ 1000) {w : List Nat} (x1 x2 x3 x4 x6 x7 x13 x14 : Option MV) : ∀ (rs : List Rw) (k : Nat) (DF : List (StA × List Nat) × List StA) (x10 x11 x12 : Option MV),
    rs.all (okN N nt) = true → dFind DF.1 s = some w → w.length < DF.1.length → DF.1.length + rs.length ≤ 5000 → DF.2.length + rs.length ≤ 5000 →
    ∃ y10 y11 y12, mLoop (gTp 2 (gsCons (gSet 10) (gsCons (gSet 11) gsNil))) b_pall_states_0 (enumK k (rs.map enR)) [some (.tup tabs), x1, x2, x3, x4, some (.dot (dK DF.1) (dX DF.1)), x6, x7, some (.own (DF.2.map enS)), some (enS s), x10, x11, x12, x13, x14] =
      .ok (.nx, [some (.tup tabs), x1, x2, x3, x4, some (.dot (dK (stRows tb s w rs k DF).1) (dX (stRows tb s w rs k DF).1)), x6, x7, some (.own ((stRows tb s w rs k DF).2.map enS)), some (enS s), y10, y11, y12, x13, x14])
  | [], k, DF, x10, x11, x12, _, _, _, _, _ => ⟨x10, x11, x12, rfl⟩
  | r :: rs, k, DF, x10, x11, x12, hr, hw, hwl, hD, hF => by
    rw [List.all_cons, Bool.and_eq_true] at hr
    rw [List.length_cons] at hD hF
    have g := stAdd_grows (n0 := n0) hb DF k hr.1 h hn hwl
    obtain ⟨a, a1, a2, a3⟩ := g.len
    have bo := pall_row (n0 := n0) ht hb hN hr.1 h (by omega) hw (by omega) (by omega) (by omega) k x1 x2 x3 x4 x6 x7 x12 x13 x14
    obtain ⟨y10, y11, y12, e⟩ := pall_rows ht hb hN h hn hl x1 x2 x3 x4 x6 x7 x13 x14 rs (k + 1) (stAdd tb s w DF k r) (some (.int k)) (some (enR r)) (some (enS (behA tb r s))) hr.2 (g.old s w hw) (by omega) (by omega) (by omega)
    refine ⟨y10, y11, y12, ?_⟩
    show (b_pall_states_0 [some (.tup tabs), x1, x2, x3, x4, some (.dot (dK DF.1) (dX DF.1)), x6, x7, some (.own (DF.2.map enS)), some (enS s), some (.int k), some (enR r), x12, x13, x14]).bind _ = _
    rw [bo]
    exact e
def pero (y : Option MV) : Prop := ∀ x, y = some x → x.per = true
theorem pall_layer {tb : Nat → Nat → Nat} {nt N n0 : Nat} {tabs : List MV} (ht : TabsAre tb nt tabs) (hb : TabLt tb nt) (hN : N ≤ 256) (hl : n0 ≤ 1000) {rs : List Rw} (hr : rs.all (okN N nt) = true) (x2 x3 x4 x6 x7 x13 x14 : Option MV) : ∀ (L : List StA) (DF : List (StA × List Nat) × List StA) (x9 x10 x11 x12 : Option MV),
    pero x9 → DOk N n0 DF.1 → (∀ s ∈ L, ∃ w, dFind DF.1 s = some w) → DF.1.length + L.length * rs.length ≤ 5000 → DF.2.length + L.length * rs.length ≤ 5000 →
    ∃ y9 y10 y11 y12, pero y9 ∧ mLoop (gSet 9) b_pall_states_1 (L.map enS) [some (.tup tabs), some (.tup (rs.map enR)), x2, x3, x4, some (.dot (dK DF.1) (dX DF.1)), x6, x7, some (.own (DF.2.map enS)), x9, x10, x11, x12, x13, x14] =
      .ok (.nx, [some (.tup tabs), some (.tup (rs.map enR)), x2, x3, x4, some (.dot (dK (stLay tb rs L DF).1) (dX (stLay tb rs L DF).1)), x6, x7, some (.own ((stLay tb rs L DF).2.map enS)), y9, y10, y11, y12, x13, x14])
  | [], DF, x9, x10, x11, x12, h9, _, _, _, _ => ⟨x9, x10, x11, x12, h9, rfl⟩
  | s :: L, DF, x9, x10, x11, x12, _, hD, hL, h1, h2 => by
    obtain ⟨w, hw⟩ := hL s (List.mem_cons_self ..)
    obtain ⟨o1, o2, o3⟩ := hD _ (dFind_some hw)
    have o1 : StOk N s := o1
    have o2 : s.length = n0 := o2
    have o3 : w.length < DF.1.length := o3
    have e0 : (dFind DF.1 s).getD [] = w := by rw [hw]; rfl
    rw [List.length_cons, Nat.add_mul, Nat.one_mul] at h1 h2
    have g := stRows_grows hb o1 o2 rs 0 DF hr (w := w) o3
    obtain ⟨a, a1, a2, a3⟩ := g.len
    obtain ⟨z10, z11, z12, lp⟩ := pall_rows ht hb hN o1 o2 hl (some (.tup (rs.map enR))) x2 x3 x4 x6 x7 x13 x14 rs 0 DF x10 x11 x12 hr hw o3 (by omega) (by omega)
    obtain ⟨y9, y10, y11, y12, p9, e⟩ := pall_layer ht hb hN hl hr x2 x3 x4 x6 x7 x13 x14 L (stRows tb s w rs 0 DF) (some (enS s)) z10 z11 z12 (fun x h => by cases h; rfl) (g.ok hD) (fun t ht => by
      obtain ⟨v, hv⟩ := hL t (List.mem_cons_of_mem _ ht)
      exact ⟨v, g.old t v hv⟩) (by omega) (by omega)
    refine ⟨y9, y10, y11, y12, p9, ?_⟩
    have bo : b_pall_states_1 [some (.tup tabs), some (.tup (rs.map enR)), x2, x3, x4, some (.dot (dK DF.1) (dX DF.1)), x6, x7, some (.own (DF.2.map enS)), some (enS s), x10, x11, x12, x13, x14] = .ok (.nx, [some (.tup tabs), some (.tup (rs.map enR)), x2, x3, x4, some (.dot (dK (stRows tb s w rs 0 DF).1) (dX (stRows tb s w rs 0 DF).1)), x6, x7, some (.own ((stRows tb s w rs 0 DF).2.map enS)), some (enS s), z10, z11, z12, x13, x14]) := by
      have zt : zitM (.tup (rs.map enR)) = some (rs.map enR) := rfl
      generalize rs.map enR = RR at *
      simp [b_pall_states_1, zt, lp]
    show (b_pall_states_1 [some (.tup tabs), some (.tup (rs.map enR)), x2, x3, x4, some (.dot (dK DF.1) (dX DF.1)), x6, x7, some (.own (DF.2.map enS)), some (enS s), x10, x11, x12, x13, x14]).bind _ = _
    rw [bo]
    show mLoop (gSet 9) b_pall_states_1 (L.map enS) _ = .ok (.nx, [_, _, _, _, _, some (.dot (dK (stLay tb rs L (stRows tb s ((dFind DF.1 s).getD []) rs 0 DF)).1) (dX (stLay tb rs L (stRows tb s ((dFind DF.1 s).getD []) rs 0 DF)).1)), _, _, some (.own ((stLay tb rs L (stRows tb s ((dFind DF.1 s).getD []) rs 0 DF)).2.map enS)), _, _, _, _, _, _])
    rw [e0]
    exact e
def Bnd (rs : List Rw) : Nat → List (StA × List Nat) × List StA → Prop
  | 0, _ => True
  | n + 1, DL => DL.1.length + DL.2.length * rs.length ≤ 5000 ∧ DL.2.length * rs.length ≤ 5000 ∧ ∀ D' L' a, a ≤ DL.2.length * rs.length → D'.length = DL.1.length + a → L'.length = a → Bnd rs n (D', L')
def cB : Nat → Nat
  | 0 => 0
  | n + 1 => 4 + 4 * cB n
theorem bnd_ok {rs : List Rw} (h4 : rs.length ≤ 4) : ∀ (n : Nat) (DL : List (StA × List Nat) × List StA), DL.1.length + DL.2.length * cB n ≤ 5000 → Bnd rs n DL
  | 0, _, _ => True.intro
  | n + 1, DL, h => by
    have hm : DL.2.length * rs.length ≤ DL.2.length * 4 := Nat.mul_le_mul_left _ h4
    have e : DL.2.length * cB (n + 1) = DL.2.length * 4 + DL.2.length * 4 * cB n := by
      show DL.2.length * (4 + 4 * cB n) = _
      rw [Nat.mul_add, Nat.mul_assoc]
    rw [e] at h
    refine ⟨by omega, by omega, fun D' L' a ha hd hl => bnd_ok h4 n (D', L') ?_⟩
    show D'.length + L'.length * cB n ≤ 5000
    rw [hd, hl]
    have : a * cB n ≤ DL.2.length * 4 * cB n := Nat.mul_le_mul_right _ (by omega)
    omega
theorem lay_step {tb : Nat → Nat → Nat} {nt N n0 : Nat} (hb : TabLt tb nt) {rs : List Rw} (hr : rs.all (okN N nt) = true) {DL : List (StA × List Nat) × List StA} (hD : DOk N n0 DL.1) (hL : ∀ s ∈ DL.2, ∃ w, dFind DL.1 s = some w) :
    DOk N n0 (stLay tb rs DL.2 (DL.1, [])).1 ∧ (∀ s ∈ (stLay tb rs DL.2 (DL.1, [])).2, ∃ w, dFind (stLay tb rs DL.2 (DL.1, [])).1 s = some w) ∧ ∃ a, a ≤ DL.2.length * rs.length ∧ (stLay tb rs DL.2 (DL.1, [])).1.length = DL.1.length + a ∧ (stLay tb rs DL.2 (DL.1, [])).2.length = a := by
  have g := stLay_grows (n0 := n0) hb hr DL.2 (DL.1, []) hD hL
  obtain ⟨a, a1, a2, a3⟩ := g.len
  refine ⟨g.ok hD, g.fr (fun s hs => nomatch hs), a, a1, a2, ?_⟩
  rw [a3, List.length_nil, Nat.zero_add]
theorem stTurns_ok {tb : Nat → Nat → Nat} {nt N n0 : Nat} (hb : TabLt tb nt) {rs : List Rw} (hr : rs.all (okN N nt) = true) (h4 : rs.length ≤ 4) : ∀ (n : Nat) (DL : List (StA × List Nat) × List StA), DOk N n0 DL.1 → (∀ s ∈ DL.2, ∃ w, dFind DL.1 s = some w) → DOk N n0 (stTurns tb rs n DL).1 ∧ (∀ s w, dFind DL.1 s = some w → dFind (stTurns tb rs n DL).1 s = some w) ∧ (stTurns tb rs n DL).1.length ≤ DL.1.length + DL.2.length * cB n
  | 0, DL, hD, _ => ⟨hD, fun _ _ h => h, by show DL.1.length ≤ _; omega⟩
  | n + 1, DL, hD, hL => by
    obtain ⟨h1, h2, a, a1, a2, a3⟩ := lay_step hb hr hD hL
    obtain ⟨k1, k2, k3⟩ := stTurns_ok hb hr h4 n (stLay tb rs DL.2 (DL.1, [])) h1 h2
    have g := stLay_grows (n0 := n0) hb hr DL.2 (DL.1, []) hD hL
    refine ⟨k1, fun s w h => k2 s w (g.old s w h), ?_⟩
    show (stTurns tb rs n (stLay tb rs DL.2 (DL.1, []))).1.length ≤ _
    have hm : DL.2.length * rs.length ≤ DL.2.length * 4 := Nat.mul_le_mul_left _ h4
    have e : DL.2.length * cB (n + 1) = DL.2.length * 4 + DL.2.length * 4 * cB n := by
      show DL.2.length * (4 + 4 * cB n) = _
      rw [Nat.mul_add, Nat.mul_assoc]
    have : a * cB n ≤ DL.2.length * 4 * cB n := Nat.mul_le_mul_right _ (by omega)
    rw [a2, a3] at k3
    rw [e]
    omega
theorem pall_turns {tb : Nat → Nat → Nat} {nt N n0 : Nat} {tabs : List MV} (ht : TabsAre tb nt tabs) (hb : TabLt tb nt) (hN : N ≤ 256) (hl : n0 ≤ 1000) {rs : List Rw} (hr : rs.all (okN N nt) = true) (x2 x3 x4 x13 x14 : Option MV) : ∀ (n : Nat) (k : Int) (DL : List (StA × List Nat) × List StA) (x7 x8 x9 x10 x11 x12 : Option MV),
    pero x9 → DOk N n0 DL.1 → (∀ s ∈ DL.2, ∃ w, dFind DL.1 s = some w) → Bnd rs n DL →
    ∃ y7 y8 y9 y10 y11 y12, pero y9 ∧ mLoop (gSet 7) b_pall_states_2 (rngM k 1 n) [some (.tup tabs), some (.tup (rs.map enR)), x2, x3, x4, some (.dot (dK DL.1) (dX DL.1)), some (.lst (DL.2.map enS)), x7, x8, x9, x10, x11, x12, x13, x14] =
      .ok (.nx, [some (.tup tabs), some (.tup (rs.map enR)), x2, x3, x4, some (.dot (dK (stTurns tb rs n DL).1) (dX (stTurns tb rs n DL).1)), some (.lst ((stTurns tb rs n DL).2.map enS)), y7, y8, y9, y10, y11, y12, x13, x14])
  | 0, k, DL, x7, x8, x9, x10, x11, x12, h9, _, _, _ => ⟨x7, x8, x9, x10, x11, x12, h9, rfl⟩
  | n + 1, k, DL, x7, x8, x9, x10, x11, x12, h9, hD, hL, hB => by
    obtain ⟨b1, b2, b3⟩ := hB
    obtain ⟨h1, h2, a, a1, a2, a3⟩ := lay_step hb hr hD hL
    obtain ⟨z9, z10, z11, z12, p9, lp⟩ := pall_layer ht hb hN hl hr x2 x3 x4 (some (.lst (DL.2.map enS))) (some (.int k)) x13 x14 DL.2 (DL.1, []) x9 x10 x11 x12 h9 hD hL b1 (by rw [List.length_nil]; omega)
    obtain ⟨y7, y8, y9, y10, y11, y12, q9, e⟩ := pall_turns ht hb hN hl hr x2 x3 x4 x13 x14 n (k + 1) (stLay tb rs DL.2 (DL.1, [])) (some (.int k)) (some (.lst ((stLay tb rs DL.2 (DL.1, [])).2.map enS))) z9 z10 z11 z12 p9 h1 h2 (b3 _ _ a a1 a2 a3)
    refine ⟨y7, y8, y9, y10, y11, y12, q9, ?_⟩
    have e0 : rngM k 1 (n + 1) = .int k :: rngM (k + 1) 1 n := rng_one12 k n
    have bo : b_pall_states_2 [some (.tup tabs), some (.tup (rs.map enR)), x2, x3, x4, some (.dot (dK DL.1) (dX DL.1)), some (.lst (DL.2.map enS)), some (.int k), x8, x9, x10, x11, x12, x13, x14] = .ok (.nx, [some (.tup tabs), some (.tup (rs.map enR)), x2, x3, x4, some (.dot (dK (stLay tb rs DL.2 (DL.1, [])).1) (dX (stLay tb rs DL.2 (DL.1, [])).1)), some (.lst ((stLay tb rs DL.2 (DL.1, [])).2.map enS)), some (.int k), some (.lst ((stLay tb rs DL.2 (DL.1, [])).2.map enS)), z9, z10, z11, z12, x13, x14]) := by
      rw [List.map_nil] at lp
      generalize (stLay tb rs DL.2 (DL.1, [])).2.map enS = LL at *
      generalize DL.2.map enS = L0 at *
      generalize rs.map enR = RR at *
      simp [b_pall_states_2, lp, szOk_small]
    rw [e0]
    show (b_pall_states_2 [some (.tup tabs), some (.tup (rs.map enR)), x2, x3, x4, some (.dot (dK DL.1) (dX DL.1)), some (.lst (DL.2.map enS)), some (.int k), x8, x9, x10, x11, x12, x13, x14]).bind _ = _
    rw [bo]
    exact e
def outA (D : List (StA × List Nat)) : List MV := D.map fun p => .tup [enW ((dFind D p.1).getD []), enS p.1]
theorem dFind_mem {D : List (StA × List Nat)} {p : StA × List Nat} (h : p ∈ D) : ∃ w, dFind D p.1 = some w := by
  unfold dFind
  cases e : D.find? fun q => decide (q.1 = p.1) with
  | none =>
    have := List.find?_eq_none.mp e p h
    simp at this
  | some q => exact ⟨q.2, rfl⟩
theorem out_lc {i j : Nat} {ρ : Env} {D : List (StA × List Nat)} (hD : D.length ≤ 5000) (hi : ρ[i]? = some (some (.dot (dK D) (dX D)))) (hij : i ≠ j) (hj : j < ρ.length) (hp : ∀ x, ρ[j]? = some (some x) → x.per = true) :
    mLcO (mItV (mListN i)) (.nm j) (mYes) (mTup (mCons (mIxN i (mVar j)) (mCons (mVar j) (mNil)))) [j] ρ = .ok (.own (outA D), ρ) := by
  have e0 : ((D.map fun p => enS p.1).map fun z : MV => match nkK z with | some k => MV.tup [((ndAt (dK D) (dX D) k).getD .non), z] | none => .non) = outA D := by
    unfold outA
    rw [List.map_map]
    refine List.map_congr_left fun p hp => ?_
    show (match nkK (enS p.1) with | some k => MV.tup [((ndAt (dK D) (dX D) k).getD .non), enS p.1] | none => .non) = _
    rw [nkK_S]
    obtain ⟨w, hw⟩ := dFind_mem hp
    show MV.tup [((ndAt (dK D) (dX D) (nkS p.1)).getD .non), enS p.1] = _
    rw [ndAt_S, hw]
    rfl
  rw [← e0]
  refine mLcO_map (fun z => match nkK z with | some k => MV.tup [((ndAt (dK D) (dX D) k).getD .non), z] | none => .non) ?_ ?_ ?_ (by rw [sizeLine_eq, List.length_map]; omega)
  · have : mListN i ρ = .ok (.lst (dK D), ρ) := by unfold mListN; rw [hi]
    unfold mItV
    rw [this]
    rfl
  · unfold perAt
    rw [List.all_cons, List.all_nil, Bool.and_true]
    split
    · rename_i x e; exact hp x e
    · rfl
  · intro z hz
    obtain ⟨p, hp, rfl⟩ := List.mem_map.mp hz
    refine ⟨(ρ.set j none).set j (some (enS p.1)), ?_, ?_, ?_, by simp⟩
    · show (if j < (ρ.set j none).length then some ((ρ.set j none).set j (some (enS p.1))) else none) = _
      rw [if_pos (by rw [List.length_set]; exact hj)]
    · have g1 : ((ρ.set j none).set j (some (enS p.1)))[j]? = some (some (enS p.1)) := by simp [hj]
      have g2 : ((ρ.set j none).set j (some (enS p.1)))[i]? = some (some (.dot (dK D) (dX D))) := by
        rw [List.set_set, List.getElem?_set_ne (fun z => hij z.symm)]
        exact hi
      obtain ⟨w, hw⟩ := dFind_mem hp
      have n1 := nkK_S p.1
      have a1 : ndAt (dK D) (dX D) (nkS p.1) = some (enW w) := by rw [ndAt_S, hw]; rfl
      have vv : mVar j ((ρ.set j none).set j (some (enS p.1))) = .ok (enS p.1, (ρ.set j none).set j (some (enS p.1))) := by
        unfold mVar
        rw [g1]
        rfl
      have hh : has ((ρ.set j none).set j (some (enS p.1))) i = true := by unfold has; rw [g2]
      have ix : mIxN i (mVar j) ((ρ.set j none).set j (some (enS p.1))) = .ok (enW w, (ρ.set j none).set j (some (enS p.1))) := by
        unfold mIxN
        rw [if_pos hh, vv]
        show (match ((ρ.set j none).set j (some (enS p.1)))[i]?, nkK (enS p.1) with | some (some (.dot ks xs)), some k => (match ndAt ks xs k with | some z => Res.ok (z, (ρ.set j none).set j (some (enS p.1))) | none => .stuck) | _, _ => .stuck) = _
        rw [g2, n1]
        show (match ndAt (dK D) (dX D) (nkS p.1) with | some z => Res.ok (z, (ρ.set j none).set j (some (enS p.1))) | none => .stuck) = _
        rw [a1]
      show mTup (mCons (mIxN i (mVar j)) (mCons (mVar j) mNil)) _ = .ok ((match nkK (enS p.1) with | some k => MV.tup [((ndAt (dK D) (dX D) k).getD .non), enS p.1] | none => .non), _)
      rw [n1]
      show _ = Res.ok (MV.tup [((ndAt (dK D) (dX D) (nkS p.1)).getD .non), enS p.1], _)
      rw [a1]
      unfold mTup mCons
      rw [ix]
      show ((mCons (mVar j) mNil ((ρ.set j none).set j (some (enS p.1)))).bind _).bind _ = _
      unfold mCons
      rw [vv]
      rfl
    · show ((ρ.set j none).set j (some (enS p.1))).set j none = ρ.set j none
      rw [List.set_set, List.set_set]
def stsA (tb : Nat → Nat → Nat) (rs : List Rw) (n : Nat) (s : StA) : List (StA × List Nat) := (stTurns tb rs n ([(s, [])], [s])).1
theorem start_ok {N n0 : Nat} {s : StA} (h : StOk N s) (hn : s.length = n0) : DOk N n0 [(s, [])] ∧ (∀ t ∈ [s], ∃ w, dFind [(s, ([] : List Nat))] t = some w) := by
  refine ⟨fun p hp => ?_, fun t ht => ?_⟩
  · rw [List.mem_singleton] at hp
    subst hp
    exact ⟨h, hn, by simp⟩
  · rw [List.mem_singleton] at ht
    subst ht
    exact ⟨[], by simp [dFind]⟩
theorem pall_eq {tb : Nat → Nat → Nat} {nt N : Nat} {tabs : List MV} (ht : TabsAre tb nt tabs) (hb : TabLt tb nt) (hN : N ≤ 256) {rs : List Rw} (hr : rs.all (okN N nt) = true) (h4 : rs.length ≤ 4) {s : StA} (h : StOk N s) (hl : s.length ≤ 1000) {n : Nat} (hn : n ≤ 4) :
    f_pall_states [.tup tabs, .tup (rs.map enR), enS s, .int n] = .ok (.lst (outA (stsA tb rs n s)), []) := by
  refine mFn_ok ?_
  obtain ⟨d1, d2⟩ := start_ok (n0 := s.length) h rfl
  have cb : ∀ k, k ≤ 4 → cB k ≤ 340 := by intro k hk; rcases (show k = 0 ∨ k = 1 ∨ k = 2 ∨ k = 3 ∨ k = 4 by omega) with rfl | rfl | rfl | rfl | rfl <;> decide
  have cbn := cb n hn
  have bn := bnd_ok h4 n ([(s, [])], [s]) (by show 1 + 1 * cB n ≤ 5000; omega)
  obtain ⟨t1, t2, t3⟩ := stTurns_ok hb hr h4 n ([(s, [])], [s]) d1 d2
  have t3 : (stTurns tb rs n ([(s, [])], [s])).1.length ≤ 1 + 1 * cB n := t3
  have lc := mLcO_map (it := mItV (mVar 2)) (g := .tp [13, 14]) (e := mTup (mCons (mBlt bTuple (mCons (mVar 13) (mNil))) (mCons (mVar 14) (mNil)))) (vs := [13, 14])
    (ρ := [some (.tup tabs), some (.tup (rs.map enR)), some (enS s), some (.int n), none, none, none, none, none, none, none, none, none, none, none])
    (ρ1 := [some (.tup tabs), some (.tup (rs.map enR)), some (enS s), some (.int n), none, none, none, none, none, none, none, none, none, none, none])
    (xs := s.map fun p => .tup [.tup (encC p.1), .int p.2]) (fun z => z) (by simp [enS]) (by simp [perAt]) (by
      intro z hz
      obtain ⟨p, hp, rfl⟩ := List.mem_map.mp hz
      have bt : ∀ L : List MV, bTuple [.tup L] = some (.tup L) := fun _ => rfl
      refine ⟨_, rfl, ?_, by simp [wipeM], by simp [wipeM]⟩
      simp [wipeM, bt, szOk_small]) (by rw [sizeLine_eq, List.length_map]; omega)
  rw [List.map_id'] at lc
  have bt : bTuple [.lst (s.map fun p => .tup [.tup (encC p.1), .int p.2])] = some (enS s) := rfl
  obtain ⟨y7, y8, y9, y10, y11, y12, p9, lp⟩ := pall_turns ht hb hN hl hr (some (enS s)) (some (.int n)) (some (enS s)) none none n 0 ([(s, [])], [s]) none none none none none none (fun x h => nomatch h) d1 d2 bn
  have oc := out_lc (i := 5) (j := 9) (ρ := [some (.tup tabs), some (.tup (rs.map enR)), some (enS s), some (.int n), some (enS s), some (.dot (dK (stTurns tb rs n ([(s, [])], [s])).1) (dX (stTurns tb rs n ([(s, [])], [s])).1)), some (.lst ((stTurns tb rs n ([(s, [])], [s])).2.map enS)), y7, y8, y9, y10, y11, y12, none, none]) (D := (stTurns tb rs n ([(s, [])], [s])).1) (by omega) rfl (by decide) (by show 9 < 15; decide) (fun x hx => p9 x (by
    have hx : some y9 = some (some x) := hx
    exact Option.some.inj hx))
  have nk := nkK_S s
  have i1 : inR (n : Int) = true := inR_of (by omega) (by omega)
  have d0 : (MV.dot (dK [(s, [])]) (dX [(s, [])])) = .dot [enS s] [.tup []] := rfl
  have l0 : ([s].map enS) = [enS s] := rfl
  rw [show (([(s, [])], [s]) : List (StA × List Nat) × List StA).1 = [(s, [])] from rfl, show (([(s, [])], [s]) : List (StA × List Nat) × List StA).2 = [s] from rfl, d0, l0] at lp
  unfold stsA
  have tS : ∃ X, enS s = .tup X := ⟨_, rfl⟩
  generalize outA (stTurns tb rs n ([(s, [])], [s])).1 = OA at *
  generalize dK (stTurns tb rs n ([(s, [])], [s])).1 = KK at *
  generalize dX (stTurns tb rs n ([(s, [])], [s])).1 = XX at *
  generalize (stTurns tb rs n ([(s, [])], [s])).2.map enS = LL at *
  generalize (s.map fun p : List Nat × Nat => MV.tup [.tup (encC p.1), .int p.2]) = SM at *
  generalize rs.map enR = RR at *
  generalize enS s = S at *
  obtain ⟨X, rfl⟩ := tS
  show ∃ ρ, m_pall_states [some (.tup tabs), some (.tup RR), some (.tup X), some (.int n), none, none, none, none, none, none, none, none, none, none, none] = _
  simp [m_pall_states, lc, bt, nk, i1, lp, oc, szOk_small]
theorem lbehind_eq {tb : Nat → Nat → Nat} {nt N : Nat} {tabs : List MV} (ht : TabsAre tb nt tabs) (hb : TabLt tb nt) (hN : N ≤ 256) {r : Rw} (hr : okN N nt r = true) {s : StA} (h : StOk N s) (hl : s.length ≤ 1000) :
    f_lbehind [.tup tabs, enR r, enS s] = .ok (enS (behA tb r s), []) := by
  have lp : ∀ (t : StA) (F : StA) (x4 x5 x6 : Option MV), StOk N t → F.length + t.length ≤ 1000 → ∃ y4 y5 y6, mLoop (gTp 2 (gsCons (gSet 4) (gsCons (gSet 5) gsNil))) b_lbehind_0 (t.map fun p => .tup [.tup (encC p.1), .int p.2]) [some (.tup tabs), some (enR r), some (enS s), some (.own (F.map fun p => .tup [.tup (encC p.1), .int p.2])), x4, x5, x6] =
      .ok (.nx, [some (.tup tabs), some (enR r), some (enS s), some (.own ((F ++ behA tb r t).map fun p => .tup [.tup (encC p.1), .int p.2])), y4, y5, y6]) := by
    intro t
    induction t with
    | nil => intro F x4 x5 x6 _ _; exact ⟨x4, x5, x6, by rw [show behA tb r [] = [] from rfl, List.append_nil]; rfl⟩
    | cons p t ih =>
      intro F x4 x5 x6 ho hl
      obtain ⟨h1, h2⟩ := ho p (List.mem_cons_self ..)
      obtain ⟨y4, y5, y6, e⟩ := ih (F ++ [runL tb [r] p]) (some (.tup (encC p.1))) (some (.int (runL tb [r] p).2)) (some (.lst (encC (runL tb [r] p).1))) (fun q hq => ho q (List.mem_cons_of_mem _ hq)) (by simp at hl ⊢; omega)
      refine ⟨y4, y5, y6, ?_⟩
      have st := lrunN_eq (T := .tup) (.inr rfl) hN ht hb [r] p.1 p.2 h1 h2 (by simp [hr])
      have st : f_lrun [.tup [.tup tabs, .tup [enR r]], .tup (encC p.1), .int p.2] = .ok (.tup [.lst (encC (runL tb [r] p).1), .int (runL tb [r] p).2], []) := st
      have lF : (F.map fun p : List Nat × Nat => MV.tup [.tup (encC p.1), .int p.2]).length < sizeLine := by rw [List.length_map, sizeLine_eq]; simp at hl; omega
      have bo : b_lbehind_0 [some (.tup tabs), some (enR r), some (enS s), some (.own (F.map fun p => .tup [.tup (encC p.1), .int p.2])), some (.tup (encC p.1)), some (.int p.2), x6] =
          .ok (.nx, [some (.tup tabs), some (enR r), some (enS s), some (.own ((F ++ [runL tb [r] p]).map fun p => .tup [.tup (encC p.1), .int p.2])), some (.tup (encC p.1)), some (.int (runL tb [r] p).2), some (.lst (encC (runL tb [r] p).1))]) := by
        rw [List.map_append, List.map_singleton]
        have bt : ∀ L : List MV, bTuple [.lst L] = some (.tup L) := fun _ => rfl
        have tE : ∃ X, enR r = .tup X := by cases r <;> exact ⟨_, rfl⟩
        have tS : ∃ X, enS s = .tup X := ⟨_, rfl⟩
        generalize (F.map fun p : List Nat × Nat => MV.tup [.tup (encC p.1), .int p.2]) = FF at *
        generalize encC (runL tb [r] p).1 = C1 at *
        generalize (runL tb [r] p).2 = m1 at *
        generalize encC p.1 = C0 at *
        generalize enS s = SS at *
        generalize enR r = RR at *
        obtain ⟨X, rfl⟩ := tE
        obtain ⟨X2, rfl⟩ := tS
        simp [b_lbehind_0, st, bt, lF, szOk_small]
      show (b_lbehind_0 [some (.tup tabs), some (enR r), some (enS s), some (.own (F.map fun p => .tup [.tup (encC p.1), .int p.2])), some (.tup (encC p.1)), some (.int p.2), x6]).bind _ = _
      rw [bo]
      rw [List.append_assoc] at e
      exact e
  obtain ⟨y4, y5, y6, e⟩ := lp s [] none none none h (by simpa using hl)
  refine mFn_ok ⟨[some (.tup tabs), some (enR r), some (enS s), some (.lst ((behA tb r s).map fun p => .tup [.tup (encC p.1), .int p.2])), y4, y5, y6], ?_⟩
  rw [List.nil_append, List.map_nil] at e
  have bt : ∀ L : List MV, bTuple [.lst L] = some (.tup L) := fun _ => rfl
  have tE : ∃ X, enR r = .tup X := by cases r <;> exact ⟨_, rfl⟩
  have tS : enS s = .tup (s.map fun p => .tup [.tup (encC p.1), .int p.2]) := rfl
  have tS2 : enS (behA tb r s) = .tup ((behA tb r s).map fun p => .tup [.tup (encC p.1), .int p.2]) := rfl
  rw [tS] at e ⊢
  rw [tS2]
  generalize (behA tb r s).map (fun p : List Nat × Nat => MV.tup [.tup (encC p.1), .int p.2]) = B at *
  generalize s.map (fun p : List Nat × Nat => MV.tup [.tup (encC p.1), .int p.2]) = A at *
  generalize enR r = RR at *
  obtain ⟨X, rfl⟩ := tE
  show m_lbehind [some (.tup tabs), some (.tup X), some (.tup A), none, none, none, none] = _
  simp [m_lbehind, e, bt, szOk_small]
theorem draws_rep : ∀ {n : Nat} {ds : List Int}, DrawsAre (List.replicate n 256) ds → ∃ c : List Nat, ds = c.map (fun d : Nat => (d : Int)) ∧ c.length = n ∧ ∀ d ∈ c, d < 256
  | 0, ds, h => by
    rw [List.replicate_zero, draws_nil] at h
    exact ⟨[], h, rfl, fun d hd => nomatch hd⟩
  | n + 1, ds, h => by
    rw [List.replicate_succ, draws_cons] at h
    obtain ⟨d, r, rfl, hd, h⟩ := h
    obtain ⟨c, rfl, h1, h2⟩ := draws_rep h
    refine ⟨d.toNat :: c, ?_, by simp [h1], ?_⟩
    · rw [List.map_cons, show ((d.toNat : Nat) : Int) = d by omega]
    · intro x hx
      rcases List.mem_cons.mp hx with rfl | hx
      · omega
      · exact h2 x hx
theorem cellsN_of {N : Nat} {c : List Nat} (h1 : c.length = N) (h2 : ∀ d ∈ c, d < 256) : CellsN N c := by
  refine ⟨h1, fun i => ?_⟩
  unfold cg
  rw [List.getD_eq_getElem?_getD]
  cases h : c[i]? with
  | none => exact (by decide : (0 : Nat) < 256)
  | some x => exact h2 x (List.mem_of_getElem? h)
theorem lstarts_ok {N : Nat} (hN : 1 ≤ N ∧ N ≤ 256) (ns : List Int) (at_ : Nat) : ∃ s : StA, StOk N s ∧ 1 ≤ s.length ∧ s.length ≤ 5 ∧ f_lstarts [.scr ns, .int at_, .int N] = .ok (enS s, []) := by
  obtain ⟨c0, hc0⟩ := lcell_ok ns at_
  obtain ⟨ds, hd, hds⟩ := ldraws_ok c0 (5 + (at_ : Int)) [5, 4, 256, 256, 256] (by decide) (by decide)
  simp only [draws_cons, draws_nil] at hd
  obtain ⟨d0, _, rfl, u0, d1, _, rfl, u1, d2, _, rfl, u2, d3, _, rfl, u3, d4, _, rfl, u4, rfl⟩ := hd
  obtain ⟨n0, rfl⟩ : ∃ x : Nat, d0 = x := ⟨d0.toNat, by omega⟩
  obtain ⟨e2, rfl⟩ : ∃ x : Nat, d2 = x := ⟨d2.toNat, by omega⟩
  obtain ⟨e3, rfl⟩ : ∃ x : Nat, d3 = x := ⟨d3.toNat, by omega⟩
  obtain ⟨e4, rfl⟩ : ∃ x : Nat, d4 = x := ⟨d4.toNat, by omega⟩
  simp at hds
  obtain ⟨c1, hc1⟩ := lcell_ok ns (at_ + 1)
  have hc1 : f_lcell [.scr ns, .int ((at_ : Int) + 1)] = .ok (.int c1, []) := by
    have e : ((at_ + 1 : Nat) : Int) = (at_ : Int) + 1 := by omega
    rw [← e]; exact hc1
  have lenW : (MV.int 2 :: List.replicate N (MV.int 256)).length = N + 1 := by simp
  have key : ∀ (m k : Nat) (F : StA) (x4 x10 x11 : Option MV), StOk N F → F.length = k → k + m ≤ 5 →
      ∃ (F' : StA) (y4 y10 y11 : Option MV), StOk N F' ∧ F'.length = k + m ∧ mLoop (gSet 4) b_lstarts_0 (rngM k 1 m) [some (.scr ns), some (.int at_), some (.int N), some (.own (F.map fun p => .tup [.tup (encC p.1), .int p.2])), x4, some (.int n0), some (.int d1), some (.int e2), some (.int e3), some (.int e4), x10, x11, none] =
        .ok (.nx, [some (.scr ns), some (.int at_), some (.int N), some (.own (F'.map fun p => .tup [.tup (encC p.1), .int p.2])), y4, some (.int n0), some (.int d1), some (.int e2), some (.int e3), some (.int e4), y10, y11, none]) := by
    intro m
    induction m with
    | zero => intro k F x4 x10 x11 h1 h2 _; exact ⟨F, x4, x10, x11, h1, h2, rfl⟩
    | succ m ih =>
      intro k F x4 x10 x11 h1 h2 h3
      obtain ⟨q, hq⟩ : ∃ q : Int, q = c1 + 104729 * (k : Int) * (if d1 < 3 then 1 else 0) := ⟨_, rfl⟩
      obtain ⟨es, he, hes⟩ := ldraws_ok q (17 + (k : Int)) (2 :: List.replicate N 256) (by simp; omega) (by
        intro w hw
        rcases List.mem_cons.mp hw with rfl | hw
        · exact ⟨by decide, by decide⟩
        · rw [(List.mem_replicate.mp hw).2]; exact ⟨by decide, by decide⟩)
      rw [draws_cons] at he
      obtain ⟨b, r, rfl, hb, he⟩ := he
      obtain ⟨c, rfl, cl, cb⟩ := draws_rep he
      obtain ⟨b, rfl⟩ : ∃ x : Nat, b = x := ⟨b.toNat, by omega⟩
      have wE : (MV.int 2 :: List.replicate N (MV.int 256)) = (2 :: List.replicate N (256 : Int)).map MV.int := by rw [List.map_cons, List.map_replicate]
      rw [← wE, List.map_cons, List.map_map] at hes
      have eC : (c.map (MV.int ∘ fun d : Nat => (d : Int))) = encC c := rfl
      rw [eC] at hes
      have m1 : mulOk 104729 (k : Int) = true := mulOk_r (by omega) (by omega)
      have m2 : mulOk (104729 * (k : Int)) (if d1 < 3 then 1 else 0) = true := mulOk_r (by split <;> omega) (by split <;> omega)
      have fm : fMul (.lst [.int 256]) (.int N) = some (.lst (List.replicate N (.int 256))) := fMul_1 (by omega)
      have zN : szOk (N + 1) = true := szOk_small (by omega)
      have zN2 : szOk (1 + N) = true := szOk_small (by omega)
      have c2 : ∀ (x : MV) (l : List MV), cutM (x :: l) (some 1) none = l := fun x l => by rw [cutM_from (by decide)]; rfl
      have a0 : ∀ (x : MV) (l : List MV), atI (x :: l) 0 = some x := fun x l => by rw [atI_ge (by decide)]; rfl
      have bt : ∀ L : List MV, bTuple [.lst L] = some (.tup L) := fun _ => rfl
      have lF : (F.map fun p : List Nat × Nat => MV.tup [.tup (encC p.1), .int p.2]).length < sizeLine := by rw [List.length_map, sizeLine_eq]; omega
      -- the cells of this start
      have ed : ∃ c' : List Nat, CellsN N c' ∧ ∃ (y10 y11 : Option MV), b_lstarts_0 [some (.scr ns), some (.int at_), some (.int N), some (.own (F.map fun p => .tup [.tup (encC p.1), .int p.2])), some (.int k), some (.int n0), some (.int d1), some (.int e2), some (.int e3), some (.int e4), x10, x11, none] =
          .ok (.nx, [some (.scr ns), some (.int at_), some (.int N), some (.own ((F ++ [(c', b)]).map fun p => .tup [.tup (encC p.1), .int p.2])), some (.int k), some (.int n0), some (.int d1), some (.int e2), some (.int e3), some (.int e4), y10, y11, none]) := by
        by_cases h0 : d1 = 0
        · have h13 : d1 < 3 := by omega
          rw [if_pos h13] at hq m2
          obtain ⟨E, hE⟩ : ∃ E : List MV, [MV.int 0, .int 1, .int 127, .int 128, .int 255, .int e2, .int e3, .int e4] = E := ⟨_, rfl⟩
          obtain ⟨g, hg, hgE⟩ : ∃ g : Nat → Nat, (∀ d, g d < 256) ∧ ∀ d : Nat, atI E ((d : Int).fmod 8) = some (.int (g d)) := by
            have pt : ∀ d : Nat, ∃ v : Nat, v < 256 ∧ atI E ((d : Int).fmod 8) = some (.int v) := by
              intro d
              have q : (d : Int).fmod 8 = ((d % 8 : Nat) : Int) := nat_fmod d 8
              have := Nat.mod_lt d (show 0 < 8 by decide)
              rw [q, ← hE]
              generalize d % 8 = x at *
              rcases (show x = 0 ∨ x = 1 ∨ x = 2 ∨ x = 3 ∨ x = 4 ∨ x = 5 ∨ x = 6 ∨ x = 7 by omega) with rfl | rfl | rfl | rfl | rfl | rfl | rfl | rfl
              · exact ⟨0, by decide, rfl⟩
              · exact ⟨1, by decide, rfl⟩
              · exact ⟨127, by decide, rfl⟩
              · exact ⟨128, by decide, rfl⟩
              · exact ⟨255, by decide, rfl⟩
              · exact ⟨e2, by omega, rfl⟩
              · exact ⟨e3, by omega, rfl⟩
              · exact ⟨e4, by omega, rfl⟩
            obtain ⟨g, hg⟩ := Classical.axiomOfChoice pt
            exact ⟨g, fun d => (hg d).1, fun d => (hg d).2⟩
          have d8 : divOk 8 = true := by decide
          have lc := mLcO_it (it := mItV (mSl (mVar 10) (mPart (mC (.int 1))) (mNo))) (e := mOp fIx (mVar 11) (mOp fMod (mVar 12) (mC (.int 8)))) (v := 12) (l := c)
            (ρ := [some (.scr ns), some (.int at_), some (.int N), some (.own (F.map fun p => .tup [.tup (encC p.1), .int p.2])), some (.int k), some (.int n0), some (.int d1), some (.int e2), some (.int e3), some (.int e4), some (.lst (.int b :: encC c)), some (.lst E), none])
            (fun d : Nat => .int d) (fun d => .int (g d)) (by
              unfold encC
              simp [mItV, c2]) rfl (fun d hd => by simp [d8, hgE]) (by rw [sizeLine_eq]; omega)
          have eg : (c.map fun d => MV.int (g d)) = encC (c.map g) := by unfold encC; rw [List.map_map]; rfl
          rw [eg] at lc
          refine ⟨c.map g, cellsN_of (by rw [List.length_map]; exact cl) (fun d hd => by
            obtain ⟨x, _, rfl⟩ := List.mem_map.mp hd
            exact hg x), some (.lst (.int b :: encC (c.map g))), some (.lst E), ?_⟩
          rw [List.map_append, List.map_singleton]
          have lg : (encC (c.map g)).length = N := by unfold encC; rw [List.length_map, List.length_map]; exact cl
          have tl : mLst (mCons (mC (.int 0)) (mCons (mC (.int 1)) (mCons (mC (.int 127)) (mCons (mC (.int 128)) (mCons (mC (.int 255)) (mCons (mVar 7) (mCons (mVar 8) (mCons (mVar 9) (mNil))))))))) [some (.scr ns), some (.int at_), some (.int N), some (.own (F.map fun p => .tup [.tup (encC p.1), .int p.2])), some (.int k), some (.int n0), some (.int d1), some (.int e2), some (.int e3), some (.int e4), some (.lst (.int b :: encC c)), x11, none] = .ok (.lst E, [some (.scr ns), some (.int at_), some (.int N), some (.own (F.map fun p => .tup [.tup (encC p.1), .int p.2])), some (.int k), some (.int n0), some (.int d1), some (.int e2), some (.int e3), some (.int e4), some (.lst (.int b :: encC c)), x11, none]) := by
            rw [← hE]; rfl
          subst h0
          have hq : q = c1 + 104729 * (k : Int) := by rw [hq]; omega
          rw [hq] at hes
          unfold b_lstarts_0
          generalize mLst (mCons (mC (.int 0)) (mCons (mC (.int 1)) (mCons (mC (.int 127)) (mCons (mC (.int 128)) (mCons (mC (.int 255)) (mCons (mVar 7) (mCons (mVar 8) (mCons (mVar 9) (mNil))))))))) = TL at *
          generalize (F.map fun p : List Nat × Nat => MV.tup [.tup (encC p.1), .int p.2]) = FF at *
          generalize encC (c.map g) = G at *
          generalize encC c = C0 at *
          generalize hRp : List.replicate N (MV.int 256) = RP at *
          have lR : RP.length = N := by rw [← hRp]; simp
          simp [hc1, m1, m2, fm, lR, zN2, zN, hes, szOk_small, tl, a0, lc, lg, c2, bt, lF]
        · refine ⟨c, cellsN_of cl cb, some (.lst (.int b :: encC c)), x11, ?_⟩
          rw [List.map_append, List.map_singleton]
          generalize (F.map fun p : List Nat × Nat => MV.tup [.tup (encC p.1), .int p.2]) = FF at *
          generalize encC c = C0 at *
          generalize hRp : List.replicate N (MV.int 256) = RP at *
          have lR : RP.length = N := by rw [← hRp]; simp
          by_cases h13 : d1 < 3
          · rw [if_pos h13] at hq m2
            have hq : q = c1 + 104729 * (k : Int) := by rw [hq]; omega
            rw [hq] at hes
            simp [b_lstarts_0, hc1, m1, m2, h13, fm, lR, zN2, zN, hes, szOk_small, h0, a0, c2, bt, lF]
          · rw [if_neg h13] at hq m2
            have hq : q = c1 := by rw [hq]; omega
            rw [hq] at hes
            simp [b_lstarts_0, hc1, m1, m2, h13, fm, lR, zN2, zN, hes, szOk_small, h0, a0, c2, bt, lF]
      obtain ⟨c', hc', y10, y11, bo⟩ := ed
      obtain ⟨F', z4, z10, z11, g1, g2, e⟩ := ih (k + 1) (F ++ [(c', b)]) (some (.int k)) y10 y11 (by
        intro p hp
        rcases List.mem_append.mp hp with hp | hp
        · exact h1 p hp
        · rw [List.mem_singleton] at hp
          subst hp
          exact ⟨hc', by show b < 2; omega⟩) (by simp [h2]) (by omega)
      refine ⟨F', z4, z10, z11, g1, by omega, ?_⟩
      have e0 : rngM (k : Int) 1 (m + 1) = .int k :: rngM ((k : Int) + 1) 1 m := rng_one12 (k : Int) m
      rw [e0, loop_c_nx rfl bo]
      exact e
  obtain ⟨s, y4, y10, y11, s1, s2, lp⟩ := key (n0 + 1) 0 [] none none none (fun p hp => nomatch hp) rfl (by omega)
  refine ⟨s, s1, by omega, by omega, mFn_ok ?_⟩
  have i1 : inR (1 + (n0 : Int)) = true := inR_of (by omega) (by omega)
  have e1 : (1 + (n0 : Int)).toNat = n0 + 1 := by omega
  have bt : ∀ L : List MV, bTuple [.lst L] = some (.tup L) := fun _ => rfl
  have hc0 : f_lcell [.scr ns, .int at_] = .ok (.int c0, []) := hc0
  have lp : mLoop (gSet 4) b_lstarts_0 (rngM 0 1 (n0 + 1)) _ = _ := lp
  have eS : enS s = .tup (s.map fun p => .tup [.tup (encC p.1), .int p.2]) := rfl
  rw [eS]
  rw [List.map_nil] at lp
  generalize (s.map fun p : List Nat × Nat => MV.tup [.tup (encC p.1), .int p.2]) = SS at *
  simp [m_lstarts, hc0, hds, i1, e1, lp, bt, szOk_small]
theorem held66 {tb : Nat → Nat → Nat} {nt N : Nat} (hb : TabLt tb nt) (h16 : nt ≤ 16) (hN : N ≤ 256) {rs : List Rw} (hr : rs.all (okN N nt) = true) (h4 : rs.length ≤ 4) {s : StA} (h : StOk N s) (hl : 1 ≤ s.length) :
    f_pheld_menu [.tup (tabsOf tb nt), .tup (rs.map enR), enS s] = .ok (.non, []) := by
  have hlT : ((List.range nt).map fun k => (List.range 256).map fun b => ((tb k b : Nat) : Int)).length = nt := by simp
  have tl : ∀ t ∈ ((List.range nt).map fun k => (List.range 256).map fun b => ((tb k b : Nat) : Int)), t.length < 1000 := fun t ht => by
    obtain ⟨k, _, rfl⟩ := List.mem_map.mp ht
    rw [List.length_map, List.length_range]; decide
  have hh := hold_eq N ((List.range nt).map fun k => (List.range 256).map fun b => ((tb k b : Nat) : Int)) (rs.map abR) tl (by rw [hlT]; omega) (fun r hr => by
    obtain ⟨q, _, rfl⟩ := List.mem_map.mp hr
    exact abR_len q)
  rw [badTab_good _ 0 (by rw [hlT]; omega) (tabsT_ok hb)] at hh
  rw [hlT] at hh
  simp only [badRow_good rs 0 (by omega) hr] at hh
  rw [← tabsOf_enT, List.map_map, show enA ∘ abR = enR from funext enA_abR] at hh
  obtain ⟨p, s', rfl⟩ : ∃ p s', s = p :: s' := by
    cases s with
    | nil => simp at hl
    | cons p s' => exact ⟨p, s', rfl⟩
  have hc := (h p (List.mem_cons_self ..)).1
  have lC : (encC p.1).length = N := by unfold encC; rw [List.length_map]; exact hc.1
  have zN : szOk N = true := szOk_small (by omega)
  have a0 : ∀ (x : MV) (l : List MV), atI (x :: l) 0 = some x := fun x l => by rw [atI_ge (by decide)]; rfl
  refine mFn_nxB ⟨[some (.tup (tabsOf tb nt)), some (.tup (rs.map enR)), some (enS (p :: s'))], ?_, rfl⟩
  have eS : enS (p :: s') = .tup (.tup [.tup (encC p.1), .int p.2] :: s'.map fun p => .tup [.tup (encC p.1), .int p.2]) := rfl
  rw [eS]
  generalize (s'.map fun p : List Nat × Nat => MV.tup [.tup (encC p.1), .int p.2]) = SS at *
  generalize encC p.1 = C at *
  generalize tabsOf tb nt = T at *
  generalize rs.map enR = R at *
  show m_pheld_menu [some (.tup T), some (.tup R), some (.tup (.tup [.tup C, .int p.2] :: SS))] = _
  simp [m_pheld_menu, a0, lC, zN, hh, szOk_small]
theorem plisted_eq {tb : Nat → Nat → Nat} {nt N : Nat} (hb : TabLt tb nt) (h16 : nt ≤ 16) (hN : N ≤ 256) {rs : List Rw} (hr : rs.all (okN N nt) = true) (h4 : rs.length ≤ 4) {s : StA} (h : StOk N s) (h1 : 1 ≤ s.length) (hl : s.length ≤ 1000) {n : Nat} (hn : n ≤ 4) :
    f_plisted [.tup (tabsOf tb nt), .tup (rs.map enR), enS s, .int n] = .ok (.tup (outA (stsA tb rs n s)), []) := by
  have hh := held66 hb h16 hN hr h4 h h1
  have hp := pall_eq (show TabsAre tb nt (tabsOf tb nt) from tabs_gen tb nt) hb hN hr h4 h hl hn
  have bt : ∀ L : List MV, bTuple [.lst L] = some (.tup L) := fun _ => rfl
  refine mFn_ok ?_
  have tS : ∃ X, enS s = .tup X := ⟨_, rfl⟩
  generalize outA (stsA tb rs n s) = OA at *
  generalize tabsOf tb nt = T at *
  generalize rs.map enR = R at *
  generalize enS s = S at *
  obtain ⟨X, rfl⟩ := tS
  simp [m_plisted, hh, hp, bt]
def doesA (t : StA) (wl : List Nat) : Bool := (t.zip wl).all fun q => decide (cg q.1.1 0 = q.2)
theorem zipM_map {α β : Type} (f : α → MV) (g : β → MV) : ∀ (l1 : List α) (l2 : List β), zipM (l1.map f) (l2.map g) = (l1.zip l2).map fun p => .tup [f p.1, g p.2]
  | [], l2 => by cases l2 <;> rfl
  | _ :: _, [] => rfl
  | a :: l1, b :: l2 => by
    rw [List.map_cons, List.map_cons, List.zip_cons_cons, List.map_cons, ← zipM_map f g l1 l2]
    rfl
theorem at0_enc {c : List Nat} {N : Nat} (h : CellsN N c) (hN : 1 ≤ N) : atI (encC c) 0 = some (.int (cg c 0 : Nat)) := by
  have := @encC_at c 0 (by rw [h.1]; omega)
  exact this
theorem lwanted_eq {N : Nat} (hN : 1 ≤ N) {t : StA} (ht : StOk N t) (hl : t.length ≤ 1000) (wl : List Nat) : f_lwanted [enS t, .lst (encC wl)] = .ok (.bl (doesA t wl), []) := by
  refine mFn_ok ?_
  have a0 : ∀ (x : MV) (l : List MV), atI (x :: l) 0 = some x := fun x l => by rw [atI_ge (by decide)]; rfl
  have lc := mLcO_map (it := mZip (mCons (mVar 0) (mCons (mVar 1) (mNil)))) (g := .tp [2, 3]) (e := mOp fEq (mOp fIx (mOp fIx (mVar 2) (mC (.int 0))) (mC (.int 0))) (mVar 3)) (vs := [2, 3])
    (ρ := [some (enS t), some (.lst (encC wl)), none, none]) (ρ1 := [some (enS t), some (.lst (encC wl)), none, none])
    (xs := (t.zip wl).map fun p => .tup [.tup [.tup (encC p.1.1), .int p.1.2], .int p.2]) (fun z => match z with | .tup [.tup [.tup c, _], .int w] => (match atI c 0 with | some (.int a) => .bl (decide (a = w)) | _ => .non) | _ => .non) (by
      have z := zipM_map (fun p : List Nat × Nat => MV.tup [.tup (encC p.1), .int p.2]) (fun d : Nat => MV.int d) t wl
      have z : zipM (t.map fun p : List Nat × Nat => MV.tup [.tup (encC p.1), .int p.2]) (encC wl) = _ := z
      unfold enS
      generalize (t.map fun p : List Nat × Nat => MV.tup [.tup (encC p.1), .int p.2]) = TT at *
      generalize encC wl = W at *
      simp [z]) (by simp [perAt]) (by
      intro z hz
      obtain ⟨p, hp, rfl⟩ := List.mem_map.mp hz
      have hm : p.1 ∈ t := (List.of_mem_zip hp).1
      have h0 := at0_enc (ht _ hm).1 hN
      refine ⟨_, rfl, ?_, by simp [wipeM], by simp [wipeM]⟩
      generalize encC p.1.1 = C at *
      show _ = Res.ok ((match atI C 0 with | some (.int a) => MV.bl (decide (a = (p.2 : Int))) | _ => .non), _)
      rw [h0]
      simp [wipeM, a0, h0]) (by rw [sizeLine_eq, List.length_map, List.length_zip]; omega)
  have e2 : ((t.zip wl).map fun p : (List Nat × Nat) × Nat => MV.tup [.tup [.tup (encC p.1.1), .int p.1.2], .int p.2]).map (fun z : MV => match z with | .tup [.tup [.tup c, _], .int w] => (match atI c 0 with | some (.int a) => MV.bl (decide (a = w)) | _ => .non) | _ => .non) = (t.zip wl).map fun p => MV.bl (decide (cg p.1.1 0 = p.2)) := by
    rw [List.map_map]
    refine List.map_congr_left fun p hp => ?_
    have hm : p.1 ∈ t := (List.of_mem_zip hp).1
    have h0 := at0_enc (ht _ hm).1 hN
    show (match atI (encC p.1.1) 0 with | some (.int a) => MV.bl (decide (a = (p.2 : Int))) | _ => .non) = _
    rw [h0]
    show MV.bl (decide (((cg p.1.1 0 : Nat) : Int) = (p.2 : Int))) = _
    congr 1
    exact decide_eq_decide.mpr ⟨fun h => Int.ofNat.inj h, fun h => by rw [h]⟩
  rw [e2] at lc
  have ba := ball_map (fun p : (List Nat × Nat) × Nat => decide (cg p.1.1 0 = p.2)) (t.zip wl)
  have tS : ∃ X, enS t = .tup X := ⟨_, rfl⟩
  unfold doesA
  generalize ((t.zip wl).all fun p => decide (cg p.1.1 0 = p.2)) = b at *
  generalize ((t.zip wl).map fun p : (List Nat × Nat) × Nat => MV.bl (decide (cg p.1.1 0 = p.2))) = LB at *
  generalize encC wl = W at *
  generalize enS t = S at *
  obtain ⟨X, rfl⟩ := tS
  simp [m_lwanted, lc, ba]
def casesM (s : StA) (wl : List Nat) : List MV := (s.zip wl).map fun q => .tup [.tup (encC q.1.1), .int q.1.2, .int q.2]
theorem zip_zip {t s : StA} {wl : List Nat} (hs : s.length = wl.length) : (t.zip (s.zip wl)).all (fun q : (List Nat × Nat) × ((List Nat × Nat) × Nat) => decide (cg q.1.1 0 = q.2.2)) = (t.zip wl).all fun q => decide (cg q.1.1 0 = q.2) := by
  induction t generalizing s wl with
  | nil => rfl
  | cons a t ih =>
    cases wl with
    | nil => cases s with
      | nil => rfl
      | cons _ _ => cases hs
    | cons w wl =>
      cases s with
      | nil => cases hs
      | cons b s =>
        rw [List.zip_cons_cons, List.zip_cons_cons, List.zip_cons_cons, List.all_cons, List.all_cons, ih (by simpa using hs)]
theorem pdoes_all_eq {N : Nat} (hN : 1 ≤ N) {t s : StA} (ht : StOk N t) (hl : t.length ≤ 1000) {wl : List Nat} (hs : s.length = wl.length) : f_pdoes_all [enS t, .tup (casesM s wl)] = .ok (.bl (doesA t wl), []) := by
  refine mFn_ok ?_
  have a0 : ∀ (x : MV) (l : List MV), atI (x :: l) 0 = some x := fun x l => by rw [atI_ge (by decide)]; rfl
  have a2 : ∀ (x y z : MV), atI [x, y, z] 2 = some z := fun x y z => by rw [atI_ge (by decide)]; rfl
  have lc := mLcO_map (it := mZip (mCons (mVar 0) (mCons (mVar 1) (mNil)))) (g := .tp [2, 3]) (e := mOp fEq (mOp fIx (mOp fIx (mVar 2) (mC (.int 0))) (mC (.int 0))) (mOp fIx (mVar 3) (mC (.int 2)))) (vs := [2, 3])
    (ρ := [some (enS t), some (.tup (casesM s wl)), none, none]) (ρ1 := [some (enS t), some (.tup (casesM s wl)), none, none])
    (xs := (t.zip (s.zip wl)).map fun p => .tup [.tup [.tup (encC p.1.1), .int p.1.2], .tup [.tup (encC p.2.1.1), .int p.2.1.2, .int p.2.2]]) (fun z => match z with | .tup [.tup [.tup c, _], .tup [_, _, .int w]] => (match atI c 0 with | some (.int a) => .bl (decide (a = w)) | _ => .non) | _ => .non) (by
      have z := zipM_map (fun p : List Nat × Nat => MV.tup [.tup (encC p.1), .int p.2]) (fun q : (List Nat × Nat) × Nat => MV.tup [.tup (encC q.1.1), .int q.1.2, .int q.2]) t (s.zip wl)
      unfold enS casesM
      generalize (t.map fun p : List Nat × Nat => MV.tup [.tup (encC p.1), .int p.2]) = TT at *
      generalize ((s.zip wl).map fun q : (List Nat × Nat) × Nat => MV.tup [.tup (encC q.1.1), .int q.1.2, .int q.2]) = W at *
      simp [z]) (by simp [perAt]) (by
      intro z hz
      obtain ⟨p, hp, rfl⟩ := List.mem_map.mp hz
      have hm : p.1 ∈ t := (List.of_mem_zip hp).1
      have h0 := at0_enc (ht _ hm).1 hN
      refine ⟨_, rfl, ?_, by simp [wipeM], by simp [wipeM]⟩
      generalize encC p.2.1.1 = C2 at *
      generalize encC p.1.1 = C at *
      show _ = Res.ok ((match atI C 0 with | some (.int a) => MV.bl (decide (a = (p.2.2 : Int))) | _ => .non), _)
      rw [h0]
      simp [wipeM, a0, a2, h0]) (by rw [sizeLine_eq, List.length_map, List.length_zip]; omega)
  have e2 : ((t.zip (s.zip wl)).map fun p : (List Nat × Nat) × ((List Nat × Nat) × Nat) => MV.tup [.tup [.tup (encC p.1.1), .int p.1.2], .tup [.tup (encC p.2.1.1), .int p.2.1.2, .int p.2.2]]).map (fun z : MV => match z with | .tup [.tup [.tup c, _], .tup [_, _, .int w]] => (match atI c 0 with | some (.int a) => MV.bl (decide (a = w)) | _ => .non) | _ => .non) = (t.zip (s.zip wl)).map fun p => MV.bl (decide (cg p.1.1 0 = p.2.2)) := by
    rw [List.map_map]
    refine List.map_congr_left fun p hp => ?_
    have hm : p.1 ∈ t := (List.of_mem_zip hp).1
    have h0 := at0_enc (ht _ hm).1 hN
    show (match atI (encC p.1.1) 0 with | some (.int a) => MV.bl (decide (a = (p.2.2 : Int))) | _ => .non) = _
    rw [h0]
    show MV.bl (decide (((cg p.1.1 0 : Nat) : Int) = (p.2.2 : Int))) = _
    congr 1
    exact decide_eq_decide.mpr ⟨fun h => Int.ofNat.inj h, fun h => by rw [h]⟩
  rw [e2] at lc
  have ba := ball_map (fun p : (List Nat × Nat) × ((List Nat × Nat) × Nat) => decide (cg p.1.1 0 = p.2.2)) (t.zip (s.zip wl))
  rw [zip_zip hs] at ba
  have tS : ∃ X, enS t = .tup X := ⟨_, rfl⟩
  unfold doesA
  generalize ((t.zip wl).all fun p => decide (cg p.1.1 0 = p.2)) = b at *
  generalize ((t.zip (s.zip wl)).map fun p : (List Nat × Nat) × ((List Nat × Nat) × Nat) => MV.bl (decide (cg p.1.1 0 = p.2.2))) = LB at *
  generalize casesM s wl = W at *
  generalize enS t = S at *
  obtain ⟨X, rfl⟩ := tS
  simp [m_pdoes_all, lc, ba]
theorem pstarts_eq {s : StA} {wl : List Nat} (hs : s.length = wl.length) (hl : s.length ≤ 1000) : f_pstarts_of [.tup (casesM s wl)] = .ok (enS s, []) := by
  refine mFn_ok ?_
  have a0 : ∀ (x y z : MV), atI [x, y, z] 0 = some x := fun x y z => by rw [atI_ge (by decide)]; rfl
  have a1 : ∀ (x y z : MV), atI [x, y, z] 1 = some y := fun x y z => by rw [atI_ge (by decide)]; rfl
  have lc := mLcO_map (it := mItV (mVar 0)) (g := .nm 1) (e := mTup (mCons (mOp fIx (mVar 1) (mC (.int 0))) (mCons (mOp fIx (mVar 1) (mC (.int 1))) (mNil)))) (vs := [1])
    (ρ := [some (.tup (casesM s wl)), none]) (ρ1 := [some (.tup (casesM s wl)), none]) (xs := casesM s wl) (fun z => match z with | .tup [c, m, _] => .tup [c, m] | _ => .non) (by
      generalize casesM s wl = W
      simp [mItV]) (by simp [perAt]) (by
      intro z hz
      obtain ⟨p, hp, rfl⟩ := List.mem_map.mp hz
      refine ⟨_, rfl, ?_, by simp [wipeM], by simp [wipeM]⟩
      simp [wipeM, a0, a1, szOk_small]) (by unfold casesM; rw [sizeLine_eq, List.length_map, List.length_zip]; omega)
  have e2 : (casesM s wl).map (fun z : MV => match z with | .tup [c, m, _] => MV.tup [c, m] | _ => .non) = s.map fun p => .tup [.tup (encC p.1), .int p.2] := by
    unfold casesM
    rw [List.map_map]
    clear lc
    induction s generalizing wl with
    | nil => rfl
    | cons p s ih =>
      cases wl with
      | nil => cases hs
      | cons w wl =>
        rw [List.zip_cons_cons, List.map_cons, List.map_cons, ih (by simpa using hs) (by simp at hl; omega)]
        rfl
  rw [e2] at lc
  have bt : bTuple [.lst (s.map fun p => .tup [.tup (encC p.1), .int p.2])] = some (enS s) := rfl
  generalize (s.map fun p : List Nat × Nat => MV.tup [.tup (encC p.1), .int p.2]) = SM at *
  generalize casesM s wl = W at *
  simp [m_pstarts_of, lc, bt]
def prA (D : List (StA × List Nat)) : List (List Nat × StA) := D.map fun p => ((dFind D p.1).getD [], p.1)
def enPr (q : List Nat × StA) : MV := .tup [enW q.1, enS q.2]
theorem out_prA (D : List (StA × List Nat)) : outA D = (prA D).map enPr := by
  unfold outA prA
  rw [List.map_map]
  rfl
theorem pleastS_loop {N : Nat} (hN : 1 ≤ N) {s : StA} {wl : List Nat} (hs : s.length = wl.length) (x0 x1 x3 x4 : Option MV) : ∀ (P : List (List Nat × StA)) (x5 x6 : Option MV), (∀ q ∈ P, StOk N q.2 ∧ q.2.length ≤ 1000) →
    ∃ y5 y6, mLoop (gTp 2 (gsCons (gSet 5) (gsCons (gSet 6) gsNil))) b_pleast_0 (P.map enPr) [x0, x1, some (.tup (casesM s wl)), x3, x4, x5, x6] = (match P.find? fun q => doesA q.2 wl with
      | some q => .ok (.rt (.tup [.str "least", enW q.1]), [x0, x1, some (.tup (casesM s wl)), x3, x4, y5, y6])
      | none => .ok (.nx, [x0, x1, some (.tup (casesM s wl)), x3, x4, y5, y6]))
  | [], x5, x6, _ => ⟨x5, x6, rfl⟩
  | q :: P, x5, x6, h => by
    obtain ⟨h1, h2⟩ := h q (List.mem_cons_self ..)
    have dl := pdoes_all_eq hN h1 h2 hs
    have tS : ∃ X, enS q.2 = .tup X := ⟨_, rfl⟩
    have tW : ∃ X, enW q.1 = .tup X := ⟨_, rfl⟩
    have hg : gTp 2 (gsCons (gSet 5) (gsCons (gSet 6) gsNil)) (enPr q) [x0, x1, some (.tup (casesM s wl)), x3, x4, x5, x6] = some [x0, x1, some (.tup (casesM s wl)), x3, x4, some (enW q.1), some (enS q.2)] := rfl
    rw [List.find?_cons]
    cases hd : doesA q.2 wl with
    | true =>
      rw [hd] at dl
      refine ⟨some (enW q.1), some (enS q.2), ?_⟩
      rw [List.map_cons]
      refine loop_c_rt hg ?_
      generalize casesM s wl = W at *
      generalize enS q.2 = S at *
      generalize enW q.1 = WW at *
      obtain ⟨X, rfl⟩ := tS
      obtain ⟨X2, rfl⟩ := tW
      simp [b_pleast_0, dl, szOk_small]
    | false =>
      rw [hd] at dl
      obtain ⟨y5, y6, e⟩ := pleastS_loop hN hs x0 x1 x3 x4 P (some (enW q.1)) (some (enS q.2)) fun z hz => h z (List.mem_cons_of_mem _ hz)
      refine ⟨y5, y6, ?_⟩
      have bo : b_pleast_0 [x0, x1, some (.tup (casesM s wl)), x3, x4, some (enW q.1), some (enS q.2)] = .ok (.nx, [x0, x1, some (.tup (casesM s wl)), x3, x4, some (enW q.1), some (enS q.2)]) := by
        clear e
        generalize casesM s wl = W at *
        generalize enS q.2 = S at *
        generalize enW q.1 = WW at *
        obtain ⟨X, rfl⟩ := tS
        obtain ⟨X2, rfl⟩ := tW
        simp [b_pleast_0, dl]
      rw [List.map_cons, loop_c_nx hg bo]
      exact e
def leastA (P : List (List Nat × StA)) (wl : List Nat) : MV := match P.find? fun q => doesA q.2 wl with
  | some q => .tup [.str "least", enW q.1]
  | none => .tup [.str "none", .tup (P.map enPr)]
theorem pleastS_eq {tb : Nat → Nat → Nat} {nt N : Nat} (hb : TabLt tb nt) (h16 : nt ≤ 16) (hN1 : 1 ≤ N) (hN : N ≤ 256) {rs : List Rw} (hr : rs.all (okN N nt) = true) (h4 : rs.length ≤ 4) {s : StA} (h : StOk N s) (h1 : 1 ≤ s.length) (hl : s.length ≤ 1000) {n : Nat} (hn : n ≤ 4) {wl : List Nat} (hs : s.length = wl.length) :
    f_pleast [.tup (tabsOf tb nt), .tup (rs.map enR), .tup (casesM s wl), .int n] = .ok (leastA (prA (stsA tb rs n s)) wl, []) := by
  have pl := plisted_eq hb h16 hN hr h4 h h1 hl hn
  have ps := pstarts_eq hs hl
  obtain ⟨d1, d2⟩ := start_ok (n0 := s.length) h rfl
  obtain ⟨t1, _, _⟩ := stTurns_ok hb hr h4 n ([(s, [])], [s]) d1 d2
  have t1 : DOk N s.length (stsA tb rs n s) := t1
  have pq : ∀ q ∈ prA (stsA tb rs n s), StOk N q.2 ∧ q.2.length ≤ 1000 := by
    intro q hq
    obtain ⟨p, hp, rfl⟩ := List.mem_map.mp hq
    obtain ⟨o1, o2, _⟩ := t1 p hp
    exact ⟨o1, by show p.1.length ≤ 1000; omega⟩
  rw [out_prA] at pl
  obtain ⟨y5, y6, lp⟩ := pleastS_loop hN1 hs (some (.tup (tabsOf tb nt))) (some (.tup (rs.map enR))) (some (.int n)) (some (.tup ((prA (stsA tb rs n s)).map enPr))) (prA (stsA tb rs n s)) none none pq
  refine mFn_ok ?_
  unfold leastA
  have tS : ∃ X, enS s = .tup X := ⟨_, rfl⟩
  generalize casesM s wl = W at *
  generalize tabsOf tb nt = T at *
  generalize rs.map enR = R at *
  generalize enS s = S at *
  generalize (prA (stsA tb rs n s)).map enPr = PM at *
  obtain ⟨X, rfl⟩ := tS
  cases hf : (prA (stsA tb rs n s)).find? fun q => doesA q.2 wl with
  | some q =>
    rw [hf] at lp
    have tW : ∃ X, enW q.1 = .tup X := ⟨_, rfl⟩
    generalize enW q.1 = WW at *
    simp [m_pleast, ps, pl, lp]
  | none =>
    rw [hf] at lp
    simp [m_pleast, ps, pl, lp, szOk_small]
def llt : List Nat → List Nat → Prop
  | _, [] => False
  | [], _ :: _ => True
  | a :: as, b :: bs => a < b ∨ (a = b ∧ llt as bs)
theorem llt_irr : ∀ a : List Nat, ¬ llt a a
  | [], h => h
  | a :: as, h => by
    rcases h with h | ⟨_, h⟩
    · omega
    · exact llt_irr as h
theorem llt_trans : ∀ {a b c : List Nat}, llt a b → llt b c → llt a c
  | [], [], _, h, _ => False.elim h
  | _ :: _, [], _, h, _ => False.elim h
  | [], _ :: _, [], _, h => False.elim h
  | _ :: _, _ :: _, [], _, h => False.elim h
  | [], _ :: _, _ :: _, _, _ => True.intro
  | a :: as, b :: bs, c :: cs, h1, h2 => by
    rcases h1 with h1 | ⟨rfl, h1⟩
    · rcases h2 with h2 | ⟨rfl, h2⟩
      · exact .inl (by omega)
      · exact .inl h1
    · rcases h2 with h2 | ⟨rfl, h2⟩
      · exact .inl h2
      · exact .inr ⟨rfl, llt_trans h1 h2⟩
theorem llt_snoc : ∀ {a b : List Nat} (k j : Nat), a.length = b.length → (llt a b ∨ (a = b ∧ k < j)) → llt (a ++ [k]) (b ++ [j])
  | [], [], k, j, _, h => by
    rcases h with h | ⟨_, h⟩
    · exact h.elim
    · exact .inl h
  | [], _ :: _, _, _, h, _ => by simp at h
  | _ :: _, [], _, _, h, _ => by simp at h
  | a :: as, b :: bs, k, j, hl, h => by
    have hl2 : as.length = bs.length := by simpa using hl
    rcases h with (h | ⟨rfl, h⟩) | ⟨h, hk⟩
    · exact .inl h
    · exact .inr ⟨rfl, llt_snoc k j hl2 (.inl h)⟩
    · injection h with h1 h2
      exact .inr ⟨h1, llt_snoc k j hl2 (.inr ⟨h2, hk⟩)⟩
def slt (a b : List Nat) : Prop := a.length < b.length ∨ (a.length = b.length ∧ llt a b)
def sle (a b : List Nat) : Prop := a = b ∨ slt a b
theorem slt_irr (a : List Nat) : ¬ slt a a := fun h => by
  rcases h with h | ⟨_, h⟩
  · omega
  · exact llt_irr a h
theorem slt_trans {a b c : List Nat} (h1 : slt a b) (h2 : slt b c) : slt a c := by
  rcases h1 with h1 | ⟨e1, h1⟩
  · rcases h2 with h2 | ⟨e2, h2⟩
    · exact .inl (by omega)
    · exact .inl (by omega)
  · rcases h2 with h2 | ⟨e2, h2⟩
    · exact .inl (by omega)
    · exact .inr ⟨by omega, llt_trans h1 h2⟩
theorem sle_trans {a b c : List Nat} (h1 : sle a b) (h2 : sle b c) : sle a c := by
  rcases h1 with rfl | h1
  · exact h2
  · rcases h2 with rfl | h2
    · exact .inr h1
    · exact .inr (slt_trans h1 h2)
theorem sle_snoc {a b : List Nat} (k : Nat) (h : sle a b) : sle (a ++ [k]) (b ++ [k]) := by
  rcases h with rfl | h | ⟨e, h⟩
  · exact .inl rfl
  · exact .inr (.inl (by simpa using h))
  · exact .inr (.inr ⟨by simp [e], llt_snoc k k e (.inl h)⟩)
def actA (tb : Nat → Nat → Nat) (rs : List Rw) (s : StA) (w : List Nat) : StA := w.foldl (fun t k => match rs[k]? with | some r => behA tb r t | none => t) s
theorem actA_snoc (tb : Nat → Nat → Nat) (rs : List Rw) (s : StA) (w : List Nat) {k : Nat} {r : Rw} (hk : rs[k]? = some r) : actA tb rs s (w ++ [k]) = behA tb r (actA tb rs s w) := by
  unfold actA
  rw [List.foldl_append]
  show (match rs[k]? with | some r => behA tb r _ | none => _) = _
  rw [hk]
def WordOk (rs : List Rw) (w : List Nat) : Prop := ∀ k ∈ w, k < rs.length
def Told (tb : Nat → Nat → Nat) (rs : List Rw) (s : StA) (D : List (StA × List Nat)) : Prop := ∀ p ∈ D, p.1 = actA tb rs s p.2 ∧ WordOk rs p.2
def Rise (D : List (StA × List Nat)) : Prop := D.Pairwise fun p q => slt p.2 q.2
def Bef (D : List (StA × List Nat)) (w : List Nat) : Prop := ∀ p ∈ D, slt p.2 w
theorem stAdd_told {tb : Nat → Nat → Nat} {rs : List Rw} {s x : StA} {w : List Nat} {DF : List (StA × List Nat) × List StA} {k : Nat} {r : Rw} (hk : rs[k]? = some r) (hx : x = actA tb rs s w) (hw : WordOk rs w) (hB : Bef DF.1 (w ++ [k])) (hT : Told tb rs s DF.1) (hR : Rise DF.1) :
    Told tb rs s (stAdd tb x w DF k r).1 ∧ Rise (stAdd tb x w DF k r).1 ∧ (∀ v, slt (w ++ [k]) v → Bef (stAdd tb x w DF k r).1 v) ∧ ∃ z, dFind (stAdd tb x w DF k r).1 (behA tb r x) = some z ∧ sle z (w ++ [k]) := by
  rcases stAdd_cases tb x w DF k r with ⟨e, v, hv⟩ | ⟨e, hn⟩
  · rw [e]
    exact ⟨hT, hR, fun u hu p hp => slt_trans (hB p hp) hu, v, hv, .inr (hB _ (dFind_some hv))⟩
  · rw [e]
    refine ⟨fun p hp => ?_, ?_, fun u hu p hp => ?_, w ++ [k], dFind_new hn, .inl rfl⟩
    · rcases List.mem_append.mp hp with hp | hp
      · exact hT p hp
      · rw [List.mem_singleton] at hp
        subst hp
        refine ⟨by rw [actA_snoc tb rs s w hk, ← hx], fun j hj => ?_⟩
        rcases List.mem_append.mp hj with hj | hj
        · exact hw j hj
        · rw [List.mem_singleton] at hj
          subst hj
          exact (List.getElem?_eq_some_iff.mp hk).1
    · refine List.pairwise_append.mpr ⟨hR, List.pairwise_singleton _ _, fun p hp q hq => ?_⟩
      rw [List.mem_singleton] at hq
      subst hq
      exact hB p hp
    · rcases List.mem_append.mp hp with hp | hp
      · exact slt_trans (hB p hp) hu
      · rw [List.mem_singleton] at hp
        subst hp
        exact hu
theorem stRows_told {tb : Nat → Nat → Nat} {rs : List Rw} {s x : StA} {w : List Nat} (hx : x = actA tb rs s w) (hw : WordOk rs w) : ∀ (l : List Rw) (k : Nat) (DF : List (StA × List Nat) × List StA), rs.drop k = l → (∀ j, k ≤ j → Bef DF.1 (w ++ [j])) → Told tb rs s DF.1 → Rise DF.1 →
    Told tb rs s (stRows tb x w l k DF).1 ∧ Rise (stRows tb x w l k DF).1 ∧ (∀ v, slt (w ++ [rs.length]) v → Bef (stRows tb x w l k DF).1 v ∨ Bef DF.1 v → Bef (stRows tb x w l k DF).1 v) ∧ (∀ v, (∀ j, slt (w ++ [j]) v) → Bef DF.1 v → Bef (stRows tb x w l k DF).1 v) ∧
      (∀ u z, dFind DF.1 u = some z → dFind (stRows tb x w l k DF).1 u = some z) ∧ ∀ j r, k ≤ j → rs[j]? = some r → ∃ z, dFind (stRows tb x w l k DF).1 (behA tb r x) = some z ∧ sle z (w ++ [j])
  | [], k, DF, hd, hB, hT, hR => by
    refine ⟨hT, hR, fun v _ h => h.elim id id, fun v _ h => h, fun u z h => h, fun j r hj hr => ?_⟩
    have : rs.length ≤ k := List.drop_eq_nil_iff.mp hd
    have := (List.getElem?_eq_some_iff.mp hr).1
    omega
  | r0 :: l, k, DF, hd, hB, hT, hR => by
    have hk : rs[k]? = some r0 := by
      have := congrArg (fun z => z[0]?) hd
      simpa using this
    have hd2 : rs.drop (k + 1) = l := by
      have := congrArg List.tail hd
      simpa using this
    obtain ⟨t1, t2, t3, z0, t4, t5⟩ := stAdd_told (DF := DF) hk hx hw (hB k (Nat.le_refl _)) hT hR
    have old : ∀ u z, dFind DF.1 u = some z → dFind (stAdd tb x w DF k r0).1 u = some z := by
      intro u z h
      rcases stAdd_cases tb x w DF k r0 with ⟨e, _⟩ | ⟨e, _⟩
      · rw [e]; exact h
      · rw [e]; exact dFind_app h _
    obtain ⟨s1, s2, s3, s4, s5, s6⟩ := stRows_told hx hw l (k + 1) (stAdd tb x w DF k r0) hd2 (fun j hj => t3 (w ++ [j]) (.inr ⟨by simp, llt_snoc k j rfl (.inr ⟨rfl, by omega⟩)⟩)) t1 t2
    refine ⟨s1, s2, ?_, ?_, fun u z h => s5 u z (old u z h), ?_⟩
    · intro v hv h
      rcases h with h | h
      · exact h
      · have e : stRows tb x w (r0 :: l) k DF = stRows tb x w l (k + 1) (stAdd tb x w DF k r0) := rfl
        rw [e]
        refine s3 v hv (.inr (t3 v (slt_trans (.inr ⟨by simp, llt_snoc k rs.length rfl (.inr ⟨rfl, (List.getElem?_eq_some_iff.mp hk).1⟩)⟩) hv)))
    · intro v hv h
      exact s4 v hv (t3 v (hv k))
    · intro j r hj hr
      by_cases e : j = k
      · subst e
        rw [hk] at hr
        cases hr
        exact ⟨z0, s5 _ _ t4, t5⟩
      · exact s6 j r (by omega) hr
def Adds (DF DF' : List (StA × List Nat) × List StA) (m : Nat) : Prop := ∃ E : List (StA × List Nat), DF'.1 = DF.1 ++ E ∧ DF'.2 = DF.2 ++ E.map (·.1) ∧ ∀ p ∈ E, p.2.length = m ∧ dFind DF'.1 p.1 = some p.2
theorem Adds.refl (DF : List (StA × List Nat) × List StA) (m : Nat) : Adds DF DF m := ⟨[], by simp, by simp, fun p hp => nomatch hp⟩
theorem Adds.old {DF DF' : List (StA × List Nat) × List StA} {m : Nat} (h : Adds DF DF' m) {u : StA} {z : List Nat} (hz : dFind DF.1 u = some z) : dFind DF'.1 u = some z := by
  obtain ⟨E, e, _, _⟩ := h
  rw [e]
  exact dFind_app hz E
theorem Adds.trans {A B C : List (StA × List Nat) × List StA} {m : Nat} (h : Adds A B m) (h' : Adds B C m) : Adds A C m := by
  have ho := @Adds.old B C m h'
  obtain ⟨E, e1, e2, e3⟩ := h
  obtain ⟨E', f1, f2, f3⟩ := h'
  refine ⟨E ++ E', by rw [f1, e1, List.append_assoc], by rw [f2, e2, List.map_append, List.append_assoc], fun p hp => ?_⟩
  rcases List.mem_append.mp hp with hp | hp
  · exact ⟨(e3 p hp).1, ho (e3 p hp).2⟩
  · exact f3 p hp
theorem stAdd_adds (tb : Nat → Nat → Nat) (x : StA) (w : List Nat) (DF : List (StA × List Nat) × List StA) (k : Nat) (r : Rw) : Adds DF (stAdd tb x w DF k r) (w.length + 1) := by
  rcases stAdd_cases tb x w DF k r with ⟨e, _⟩ | ⟨e, hn⟩
  · rw [e]; exact Adds.refl _ _
  · rw [e]
    refine ⟨[(behA tb r x, w ++ [k])], rfl, rfl, fun p hp => ?_⟩
    rw [List.mem_singleton] at hp
    subst hp
    exact ⟨by simp, dFind_new hn⟩
theorem stRows_adds (tb : Nat → Nat → Nat) (x : StA) (w : List Nat) : ∀ (l : List Rw) (k : Nat) (DF : List (StA × List Nat) × List StA), Adds DF (stRows tb x w l k DF) (w.length + 1)
  | [], _, DF => Adds.refl _ _
  | r :: l, k, DF => (stAdd_adds tb x w DF k r).trans (stRows_adds tb x w l (k + 1) _)
theorem stLay_told {tb : Nat → Nat → Nat} {rs : List Rw} {s : StA} {t : Nat} : ∀ (LW : List (StA × List Nat)) (DF : List (StA × List Nat) × List StA),
    (∀ q ∈ LW, dFind DF.1 q.1 = some q.2 ∧ q.2.length = t) → LW.Pairwise (fun p q => llt p.2 q.2) → (∀ q ∈ LW, ∀ j, Bef DF.1 (q.2 ++ [j])) → Told tb rs s DF.1 → Rise DF.1 →
    Told tb rs s (stLay tb rs (LW.map (·.1)) DF).1 ∧ Rise (stLay tb rs (LW.map (·.1)) DF).1 ∧ Adds DF (stLay tb rs (LW.map (·.1)) DF) (t + 1) ∧ ∀ q ∈ LW, ∀ j r, rs[j]? = some r → ∃ z, dFind (stLay tb rs (LW.map (·.1)) DF).1 (behA tb r q.1) = some z ∧ sle z (q.2 ++ [j])
  | [], DF, _, _, _, hT, hR => ⟨hT, hR, Adds.refl _ _, fun q hq => nomatch hq⟩
  | q0 :: LW, DF, hL, hP, hB, hT, hR => by
    obtain ⟨h1, h2⟩ := hL q0 (List.mem_cons_self ..)
    obtain ⟨o1, o2⟩ := hT _ (dFind_some h1)
    have o1 : q0.1 = actA tb rs s q0.2 := o1
    have o2 : WordOk rs q0.2 := o2
    obtain ⟨p1, p2⟩ := List.pairwise_cons.mp hP
    have e0 : (dFind DF.1 q0.1).getD [] = q0.2 := by rw [h1]; rfl
    obtain ⟨s1, s2, _, s4, s5, s6⟩ := stRows_told o1 o2 rs 0 DF rfl (fun j _ => hB q0 (List.mem_cons_self ..) j) hT hR
    have ad := stRows_adds tb q0.1 q0.2 rs 0 DF
    rw [h2] at ad
    obtain ⟨r1, r2, r3, r4⟩ := stLay_told LW (stRows tb q0.1 q0.2 rs 0 DF) (fun q hq => by
      obtain ⟨a, b⟩ := hL q (List.mem_cons_of_mem _ hq)
      exact ⟨s5 _ _ a, b⟩) p2 (fun q hq j => s4 (q.2 ++ [j]) (fun i => .inr ⟨by simp [h2, (hL q (List.mem_cons_of_mem _ hq)).2], llt_snoc i j (by rw [h2, (hL q (List.mem_cons_of_mem _ hq)).2]) (.inl (p1 q hq))⟩) (hB q (List.mem_cons_of_mem _ hq) j)) s1 s2
    have ee : stLay tb rs ((q0 :: LW).map (·.1)) DF = stLay tb rs (LW.map (·.1)) (stRows tb q0.1 q0.2 rs 0 DF) := by
      show stLay tb rs (LW.map (·.1)) (stRows tb q0.1 ((dFind DF.1 q0.1).getD []) rs 0 DF) = _
      rw [e0]
    rw [ee]
    refine ⟨r1, r2, ad.trans r3, fun q hq j r hr => ?_⟩
    rcases List.mem_cons.mp hq with rfl | hq
    · obtain ⟨z, z1, z2⟩ := s6 j r (Nat.zero_le _) hr
      exact ⟨z, r3.old z1, z2⟩
    · exact r4 q hq j r hr
structure Bfs (tb : Nat → Nat → Nat) (rs : List Rw) (s : StA) (t : Nat) (DL : List (StA × List Nat) × List StA) : Prop where
  told : Told tb rs s DL.1
  rise : Rise DL.1
  cut : ∃ D0 E, DL.1 = D0 ++ E ∧ DL.2 = E.map (·.1) ∧ (∀ p ∈ D0, p.2.length < t) ∧ ∀ q ∈ E, q.2.length = t ∧ dFind DL.1 q.1 = some q.2
  all : ∀ w, WordOk rs w → w.length ≤ t → ∃ z, dFind DL.1 (actA tb rs s w) = some z ∧ sle z w
theorem bfs_start (tb : Nat → Nat → Nat) (rs : List Rw) (s : StA) : Bfs tb rs s 0 ([(s, [])], [s]) where
  told := fun p hp => by
    rw [List.mem_singleton] at hp
    subst hp
    exact ⟨rfl, fun k hk => nomatch hk⟩
  rise := List.pairwise_singleton _ _
  cut := ⟨[], [(s, [])], rfl, rfl, (fun p hp => nomatch hp), fun q hq => by
    rw [List.mem_singleton] at hq
    subst hq
    exact ⟨rfl, by simp [dFind]⟩⟩
  all := fun w _ hl => by
    have : w = [] := List.length_eq_zero_iff.mp (by omega)
    subst this
    exact ⟨[], by simp [dFind, actA], .inl rfl⟩
theorem bfs_step {tb : Nat → Nat → Nat} {rs : List Rw} {s : StA} {t : Nat} {DL : List (StA × List Nat) × List StA} (h : Bfs tb rs s t DL) : Bfs tb rs s (t + 1) (stLay tb rs DL.2 (DL.1, [])) := by
  obtain ⟨D0, E, c1, c2, c3, c4⟩ := h.cut
  have le : ∀ p ∈ DL.1, p.2.length ≤ t := by
    intro p hp
    rw [c1] at hp
    rcases List.mem_append.mp hp with hp | hp
    · exact Nat.le_of_lt (c3 p hp)
    · exact Nat.le_of_eq (c4 p hp).1
  have rE : E.Pairwise fun p q => llt p.2 q.2 := by
    have := h.rise
    unfold Rise at this
    rw [c1] at this
    have := (List.pairwise_append.mp this).2.1
    refine this.imp_of_mem fun {p q} hp hq hs => ?_
    rcases hs with hs | ⟨_, hs⟩
    · have a := (c4 p hp).1
      have b := (c4 q hq).1
      omega
    · exact hs
  obtain ⟨r1, r2, r3, r4⟩ := stLay_told (s := s) (t := t) E (DL.1, []) (fun q hq => ⟨(c4 q hq).2, (c4 q hq).1⟩) rE (fun q hq j p hp => .inl (by
    have a := le p hp
    have b := (c4 q hq).1
    simp
    omega)) h.told h.rise
  rw [← c2] at r1 r2 r3 r4
  refine ⟨r1, r2, ?_, fun w hw hl => ?_⟩
  · obtain ⟨E', e1, e2, e3⟩ := r3
    refine ⟨DL.1, E', e1, by rw [e2]; rfl, fun p hp => by have := le p hp; omega, fun q hq => e3 q hq⟩
  · by_cases hlt : w.length ≤ t
    · obtain ⟨z, z1, z2⟩ := h.all w hw hlt
      exact ⟨z, r3.old z1, z2⟩
    · obtain ⟨u, k, rfl⟩ : ∃ u k, w = u ++ [k] := by
        rcases List.eq_nil_or_concat w with rfl | ⟨u, k, e⟩
        · simp at hlt
        · exact ⟨u, k, by simpa using e⟩
      have hu : WordOk rs u := fun j hj => hw j (List.mem_append_left _ hj)
      have hk : k < rs.length := hw k (List.mem_append_right _ (List.mem_singleton.mpr rfl))
      have ul : u.length = t := by simp at hl hlt; omega
      obtain ⟨z, z1, z2⟩ := h.all u hu (by omega)
      have hr : rs[k]? = some rs[k] := List.getElem?_eq_getElem hk
      rw [actA_snoc tb rs s u hr]
      obtain ⟨t1, t2⟩ := h.told _ (dFind_some z1)
      have t1 : actA tb rs s u = actA tb rs s z := t1
      have t2 : WordOk rs z := t2
      by_cases hz : z.length < t
      · obtain ⟨y, y1, y2⟩ := h.all (z ++ [k]) (fun j hj => by
          rcases List.mem_append.mp hj with hj | hj
          · exact t2 j hj
          · rw [List.mem_singleton] at hj
            subst hj
            exact hk) (by simp; omega)
        rw [actA_snoc tb rs s z hr, ← t1] at y1
        exact ⟨y, r3.old y1, sle_trans y2 (sle_snoc k z2)⟩
      · have hm : (actA tb rs s u, z) ∈ E := by
          have := dFind_some z1
          rw [c1] at this
          rcases List.mem_append.mp this with hp | hp
          · have := c3 _ hp
            have : z.length < t := this
            omega
          · exact hp
        obtain ⟨y, y1, y2⟩ := r4 _ hm k rs[k] hr
        exact ⟨y, y1, sle_trans y2 (sle_snoc k z2)⟩
theorem bfs_turns {tb : Nat → Nat → Nat} {rs : List Rw} {s : StA} : ∀ (n t : Nat) (DL : List (StA × List Nat) × List StA), Bfs tb rs s t DL → Bfs tb rs s (t + n) (stTurns tb rs n DL)
  | 0, _, _, h => h
  | n + 1, t, DL, h => by
    have := bfs_turns n (t + 1) (stLay tb rs DL.2 (DL.1, [])) (bfs_step h)
    rw [show t + 1 + n = t + (n + 1) by omega] at this
    exact this
theorem bfs_all (tb : Nat → Nat → Nat) (rs : List Rw) (s : StA) (n : Nat) : Told tb rs s (stsA tb rs n s) ∧ Rise (stsA tb rs n s) ∧ (∀ p ∈ stsA tb rs n s, p.2.length ≤ n ∧ ∃ z, dFind (stsA tb rs n s) p.1 = some z) ∧ ∀ w, WordOk rs w → w.length ≤ n → ∃ z, dFind (stsA tb rs n s) (actA tb rs s w) = some z ∧ sle z w := by
  have h := bfs_turns n 0 _ (bfs_start tb rs s)
  rw [Nat.zero_add] at h
  refine ⟨h.told, h.rise, fun p hp => ⟨?_, dFind_mem hp⟩, h.all⟩
  obtain ⟨D0, E, c1, _, c3, c4⟩ := h.cut
  have hp : p ∈ (stTurns tb rs n ([(s, [])], [s])).1 := hp
  rw [c1] at hp
  rcases List.mem_append.mp hp with hp | hp
  · exact Nat.le_of_lt (c3 p hp)
  · exact Nat.le_of_eq (c4 p hp).1
theorem actA_ok {tb : Nat → Nat → Nat} {nt N : Nat} (hb : TabLt tb nt) {rs : List Rw} (hr : rs.all (okN N nt) = true) : ∀ (w : List Nat) (s : StA), StOk N s → StOk N (actA tb rs s w) ∧ (actA tb rs s w).length = s.length
  | [], s, h => ⟨h, rfl⟩
  | k :: w, s, h => by
    show StOk N (actA tb rs (match rs[k]? with | some r => behA tb r s | none => s) w) ∧ (actA tb rs (match rs[k]? with | some r => behA tb r s | none => s) w).length = s.length
    cases e : rs[k]? with
    | none => exact actA_ok hb hr w s h
    | some r =>
      have rk : okN N nt r = true := List.all_eq_true.mp hr _ (List.mem_of_getElem? e)
      obtain ⟨h1, h2⟩ := actA_ok hb hr w (behA tb r s) (behA_ok hb rk h)
      exact ⟨h1, by rw [h2, behA_len]⟩
def Grow0 (DF DF' : List (StA × List Nat) × List StA) : Prop := ∃ E : List (StA × List Nat), DF'.1 = DF.1 ++ E ∧ ∀ p ∈ E, dFind DF'.1 p.1 = some p.2
theorem Grow0.refl (DF : List (StA × List Nat) × List StA) : Grow0 DF DF := ⟨[], by simp, fun p hp => nomatch hp⟩
theorem Grow0.old {DF DF' : List (StA × List Nat) × List StA} (h : Grow0 DF DF') {u : StA} {z : List Nat} (hz : dFind DF.1 u = some z) : dFind DF'.1 u = some z := by
  obtain ⟨E, e, _⟩ := h
  rw [e]
  exact dFind_app hz E
theorem Grow0.trans {A B C : List (StA × List Nat) × List StA} (h : Grow0 A B) (h' : Grow0 B C) : Grow0 A C := by
  have ho := @Grow0.old B C h'
  obtain ⟨E, e1, e3⟩ := h
  obtain ⟨E', f1, f3⟩ := h'
  refine ⟨E ++ E', by rw [f1, e1, List.append_assoc], fun p hp => ?_⟩
  rcases List.mem_append.mp hp with hp | hp
  · exact ho (e3 p hp)
  · exact f3 p hp
theorem stRows_grow0 (tb : Nat → Nat → Nat) (x : StA) (w : List Nat) (l : List Rw) (k : Nat) (DF : List (StA × List Nat) × List StA) : Grow0 DF (stRows tb x w l k DF) := by
  obtain ⟨E, e1, _, e3⟩ := stRows_adds tb x w l k DF
  exact ⟨E, e1, fun p hp => (e3 p hp).2⟩
theorem stLay_grow0 (tb : Nat → Nat → Nat) (rs : List Rw) : ∀ (L : List StA) (DF : List (StA × List Nat) × List StA), Grow0 DF (stLay tb rs L DF)
  | [], DF => Grow0.refl _
  | s :: L, DF => (stRows_grow0 tb s _ rs 0 DF).trans (stLay_grow0 tb rs L _)
theorem stTurns_grow0 (tb : Nat → Nat → Nat) (rs : List Rw) : ∀ (n : Nat) (DL : List (StA × List Nat) × List StA), Grow0 DL (stTurns tb rs n DL)
  | 0, DL => Grow0.refl _
  | n + 1, DL => by
    have h1 := stLay_grow0 tb rs DL.2 (DL.1, [])
    have h2 := stTurns_grow0 tb rs n (stLay tb rs DL.2 (DL.1, []))
    exact (show Grow0 DL (stLay tb rs DL.2 (DL.1, [])) from h1).trans h2
theorem sts_once (tb : Nat → Nat → Nat) (rs : List Rw) (n : Nat) (s : StA) : (∀ p ∈ stsA tb rs n s, dFind (stsA tb rs n s) p.1 = some p.2) ∧ ∃ E, stsA tb rs n s = (s, []) :: E := by
  obtain ⟨E, e1, e2⟩ := stTurns_grow0 tb rs n ([(s, [])], [s])
  have e1 : stsA tb rs n s = (s, []) :: E := e1
  refine ⟨fun p hp => ?_, E, e1⟩
  rw [e1] at hp
  rcases List.mem_cons.mp hp with rfl | hp
  · exact Grow0.old (stTurns_grow0 tb rs n ([(s, [])], [s])) (by simp [dFind])
  · exact e2 p hp
theorem prA_once (tb : Nat → Nat → Nat) (rs : List Rw) (n : Nat) (s : StA) : prA (stsA tb rs n s) = (stsA tb rs n s).map fun p => (p.2, p.1) := by
  unfold prA
  refine List.map_congr_left fun p hp => ?_
  rw [(sts_once tb rs n s).1 p hp]
  rfl
def pOk : Nat → MV → Bool
  | _, .int i => decide (i.natAbs.log2 < 1900)
  | _, .bl _ => true
  | _, .str _ => true
  | n + 1, .tup xs => xs.all (pOk n) && decide (xs.length ≤ 20)
  | _, _ => false
def jB : Nat → MV → MV → Bool
  | n + 1, .tup xs, .tup ys => decide (xs.length = ys.length) && (xs.zip ys).all fun p => jB n p.1 p.2
  | _, .int i, .int j => decide (i = j)
  | _, .bl a, .bl b => decide (a = b)
  | _, .str a, .str b => decide (a = b)
  | _, _, _ => false
def pl : MV → Bool
  | .own _ => false
  | .obj _ _ => false
  | .dow _ _ => false
  | .dot _ _ => false
  | _ => true
theorem mVar_pl {i : Nat} {ρ : Env} {x : MV} (h : pl x = true) (hi : ρ[i]? = some (some x)) : mVar i ρ = .ok (x, ρ) := by
  unfold mVar
  rw [hi]
  cases x <;> first | rfl | cases h
theorem okJ_pl {n : Nat} {x : MV} (h : okJ n x = true) : pl x = true := by
  cases x <;> first | rfl | (cases n <;> simp [okJ] at h)
theorem pOk_pl {n : Nat} {x : MV} (h : pOk n x = true) : pl x = true := by
  cases x <;> first | rfl | (cases n <;> simp [pOk] at h)
theorem pOk_okJ : ∀ (n : Nat) (x : MV), pOk n x = true → okJ n x = true
  | n, .int i, _ => by cases n <;> rfl
  | n, .bl i, _ => by cases n <;> rfl
  | n, .str i, _ => by cases n <;> rfl
  | 0, .tup xs, h => by simp [pOk] at h
  | n + 1, .tup xs, h => by
    simp only [pOk, okJ, Bool.and_eq_true, decide_eq_true_eq, List.all_eq_true] at h ⊢
    exact ⟨fun x hx => pOk_okJ n x (h.1 x hx), by omega⟩
  | n, .non, h => by cases n <;> simp [pOk] at h
  | n, .lst _, h => by cases n <;> simp [pOk] at h
  | n, .own _, h => by cases n <;> simp [pOk] at h
  | n, .raw _, h => by cases n <;> simp [pOk] at h
  | n, .scr _, h => by cases n <;> simp [pOk] at h
  | n, .fnc _, h => by cases n <;> simp [pOk] at h
  | n, .obj _ _, h => by cases n <;> simp [pOk] at h
  | n, .dct _ _, h => by cases n <;> simp [pOk] at h
  | n, .dow _ _, h => by cases n <;> simp [pOk] at h
  | n, .dot _ _, h => by cases n <;> simp [pOk] at h
theorem call2_pl {self : MF} {ρ : Env} {x y : MV} {b : Bool} (hx : pl x = true) (hy : pl y = true) (h2 : ρ[2]? = some (some x)) (h3 : ρ[3]? = some (some y)) (hs : self [x, y] = .ok (.bl b, [])) : mFz (mCall0 self (mCons (mVar 2) (mCons (mVar 3) (mNil)))) ρ = .ok (.bl b, ρ) := by
  have e : mCons (mVar 2) (mCons (mVar 3) mNil) ρ = .ok ([x, y], ρ) := by
    unfold mCons
    rw [mVar_pl hx h2]
    simp only [Res.bind]
    rw [mVar_pl hy h3]
    rfl
  unfold mFz mCall0
  rw [e]
  simp only [Res.bind]
  rw [hs]
  rfl
theorem zipM_pairs : ∀ (xs ys : List MV), zipM xs ys = (xs.zip ys).map fun p => .tup [p.1, p.2]
  | [], _ => rfl
  | _ :: _, [] => rfl
  | x :: xs, y :: ys => by
    have := zipM_pairs xs ys
    show MV.tup [x, y] :: zipM xs ys = _
    rw [this]; rfl
theorem just_any : ∀ (n : Nat) (F D : MV), okJ n F = true → pOk n D = true → mRec 4 [] m_ljust (n + 1) [F, D] = .ok (.bl (jB n F D), []) ∧ mRec 4 [] m_pis_just (n + 1) [F, D] = .ok (.bl (jB n F D), [])
  | n, F, .int j, hF, _ => by
    constructor
    · refine mFn_ok ?_
      cases F <;> first | (exfalso; cases n <;> simp [okJ] at hF; done) | (cases n <;> simp [m_ljust, bIsi, MV.kd, kdOf, Kd.isa, fIsN, MV.isN, jB])
    · refine mFn_ok ?_
      cases F <;> first | (exfalso; cases n <;> simp [okJ] at hF; done) | (cases n <;> simp [m_pis_just, bIsi, MV.kd, kdOf, Kd.isa, fIsN, MV.isN, jB])
  | n, F, .bl j, hF, _ => by
    constructor
    · refine mFn_ok ?_
      cases F <;> first | (exfalso; cases n <;> simp [okJ] at hF; done) | (cases n <;> simp [m_ljust, bIsi, MV.kd, kdOf, Kd.isa, fIsN, MV.isN, jB])
    · refine mFn_ok ?_
      cases F <;> first | (exfalso; cases n <;> simp [okJ] at hF; done) | (cases n <;> simp [m_pis_just, bIsi, MV.kd, kdOf, Kd.isa, fIsN, MV.isN, jB])
  | n, F, .str j, hF, _ => by
    constructor
    · refine mFn_ok ?_
      cases F <;> first | (exfalso; cases n <;> simp [okJ] at hF; done) | (cases n <;> simp [m_ljust, bIsi, MV.kd, kdOf, Kd.isa, fIsN, MV.isN, jB])
    · refine mFn_ok ?_
      cases F <;> first | (exfalso; cases n <;> simp [okJ] at hF; done) | (cases n <;> simp [m_pis_just, bIsi, MV.kd, kdOf, Kd.isa, fIsN, MV.isN, jB])
  | 0, F, .tup ys, _, h => by simp [pOk] at h
  | n + 1, F, .tup ys, hF, h => by
    simp only [pOk, Bool.and_eq_true, decide_eq_true_eq, List.all_eq_true] at h
    by_cases hT : ∃ xs, F = .tup xs
    · obtain ⟨xs, rfl⟩ := hT
      simp only [okJ, Bool.and_eq_true, decide_eq_true_eq, List.all_eq_true] at hF
      have sx : szOk xs.length = true := szOk_small (by omega)
      have sy : szOk ys.length = true := szOk_small (by omega)
      by_cases hl : xs.length = ys.length
      · have jb : jB (n + 1) (.tup xs) (.tup ys) = (xs.zip ys).all fun p => jB n p.1 p.2 := by
          show (decide (xs.length = ys.length) && _) = _
          rw [decide_eq_true hl, Bool.true_and]
        rw [jb]
        have lc : ∀ (self : MF), (∀ x y, okJ n x = true → pOk n y = true → self [x, y] = .ok (.bl (jB n x y), [])) → mLcO (mZip (mCons (mVar 0) (mCons (mVar 1) (mNil)))) (.tp [2, 3]) (mYes) (mFz (mCall0 self (mCons (mVar 2) (mCons (mVar 3) (mNil))))) [2, 3] [some (.tup xs), some (.tup ys), none, none] = .ok (.own ((xs.zip ys).map fun p => .bl (jB n p.1 p.2)), [some (.tup xs), some (.tup ys), none, none]) := by
          intro self hs
          have := mLcO_map (it := mZip (mCons (mVar 0) (mCons (mVar 1) (mNil)))) (g := .tp [2, 3]) (e := mFz (mCall0 self (mCons (mVar 2) (mCons (mVar 3) (mNil))))) (vs := [2, 3])
            (ρ := [some (.tup xs), some (.tup ys), none, none]) (ρ1 := [some (.tup xs), some (.tup ys), none, none]) (xs := (xs.zip ys).map fun p => .tup [p.1, p.2])
            (fun z => match z with | .tup [x, y] => .bl (jB n x y) | _ => .non) (by simp [zipM_pairs]) (by simp [perAt]) (by
              intro z hz
              obtain ⟨p, hp, rfl⟩ := List.mem_map.mp hz
              have hx := hF.1 p.1 (List.of_mem_zip hp).1
              have hy := h.1 p.2 (List.of_mem_zip hp).2
              refine ⟨[some (.tup xs), some (.tup ys), some p.1, some p.2], by simp [setT, setAll, wipeM], ?_, by simp [wipeM], by simp⟩
              exact call2_pl (okJ_pl hx) (pOk_pl hy) rfl rfl (hs _ _ hx hy)) (by rw [sizeLine_eq, List.length_map, List.length_zip]; omega)
          rw [List.map_map] at this
          exact this
        have ba := ball_map (fun p : MV × MV => jB n p.1 p.2) (xs.zip ys)
        have l1 := lc (mRec 4 [] m_ljust (n + 1)) fun x y hx hy => (just_any n x y hx hy).1
        have l2 := lc (mRec 4 [] m_pis_just (n + 1)) fun x y hx hy => (just_any n x y hx hy).2
        generalize (xs.zip ys).map (fun p => MV.bl (jB n p.1 p.2)) = L at *
        generalize (xs.zip ys).all (fun p => jB n p.1 p.2) = b at *
        constructor
        · refine mFn_ok ?_
          simp [m_ljust, bIsi, MV.kd, kdOf, Kd.isa, sx, sy, hl, l1, ba]
        · refine mFn_ok ?_
          simp [m_pis_just, bIsi, MV.kd, kdOf, Kd.isa, sx, sy, hl, l2, ba]
      · have jb : jB (n + 1) (.tup xs) (.tup ys) = false := by
          show (decide (xs.length = ys.length) && _) = _
          rw [decide_eq_false hl]; rfl
        rw [jb]
        have hl' : ¬ ((xs.length : Int) = ys.length) := by omega
        constructor
        · refine mFn_ok ?_
          simp [m_ljust, bIsi, MV.kd, kdOf, Kd.isa, sx, sy, hl, hl']
        · refine mFn_ok ?_
          simp [m_pis_just, bIsi, MV.kd, kdOf, Kd.isa, sx, sy, hl, hl']
    · have jb : jB (n + 1) F (.tup ys) = false := by
        cases F <;> first | rfl | exact absurd ⟨_, rfl⟩ hT
      rw [jb]
      constructor
      · refine mFn_ok ?_
        cases F <;> first | (exfalso; exact hT ⟨_, rfl⟩) | (exfalso; simp [okJ] at hF; done) | simp [m_ljust, bIsi, MV.kd, kdOf, Kd.isa]
      · refine mFn_ok ?_
        cases F <;> first | (exfalso; exact hT ⟨_, rfl⟩) | (exfalso; simp [okJ] at hF; done) | simp [m_pis_just, bIsi, MV.kd, kdOf, Kd.isa]
  | n, F, .non, _, h => by cases n <;> simp [pOk] at h
  | n, F, .lst _, _, h => by cases n <;> simp [pOk] at h
  | n, F, .own _, _, h => by cases n <;> simp [pOk] at h
  | n, F, .raw _, _, h => by cases n <;> simp [pOk] at h
  | n, F, .scr _, _, h => by cases n <;> simp [pOk] at h
  | n, F, .fnc _, _, h => by cases n <;> simp [pOk] at h
  | n, F, .obj _ _, _, h => by cases n <;> simp [pOk] at h
  | n, F, .dct _ _, _, h => by cases n <;> simp [pOk] at h
  | n, F, .dow _ _, _, h => by cases n <;> simp [pOk] at h
  | n, F, .dot _ _, _, h => by cases n <;> simp [pOk] at h
theorem jB_self : ∀ (n : Nat) (x : MV), pOk n x = true → jB n x x = true
  | n, .int i, _ => by cases n <;> simp [jB]
  | n, .bl b, _ => by cases n <;> simp [jB]
  | n, .str s, _ => by cases n <;> simp [jB]
  | 0, .tup xs, h => by simp [pOk] at h
  | n + 1, .tup xs, h => by
    simp only [pOk, Bool.and_eq_true, decide_eq_true_eq, List.all_eq_true] at h
    have key : ∀ l : List MV, (∀ x ∈ l, x ∈ xs) → (l.zip l).all (fun p => jB n p.1 p.2) = true := by
      intro l
      induction l with
      | nil => intro _; rfl
      | cons x l ih =>
        intro hl
        rw [List.zip_cons_cons, List.all_cons, ih (fun z hz => hl z (List.mem_cons_of_mem _ hz)), jB_self n x (h.1 x (hl x (List.mem_cons_self ..)))]
        rfl
    simp [jB, key xs (fun _ h => h)]
  | n, .non, h => by cases n <;> simp [pOk] at h
  | n, .lst _, h => by cases n <;> simp [pOk] at h
  | n, .own _, h => by cases n <;> simp [pOk] at h
  | n, .raw _, h => by cases n <;> simp [pOk] at h
  | n, .scr _, h => by cases n <;> simp [pOk] at h
  | n, .fnc _, h => by cases n <;> simp [pOk] at h
  | n, .obj _ _, h => by cases n <;> simp [pOk] at h
  | n, .dct _ _, h => by cases n <;> simp [pOk] at h
  | n, .dow _ _, h => by cases n <;> simp [pOk] at h
  | n, .dot _ _, h => by cases n <;> simp [pOk] at h
theorem pOk_S {N : Nat} (hN : N ≤ 20) {s : StA} (h : StOk N s) (hl : s.length ≤ 20) : pOk 7 (enS s) = true := by
  have lg : ∀ d : Nat, d < 256 → (d : Int).natAbs.log2 < 1900 := by
    intro d hd
    have : d < 2 ^ 8 := hd
    by_cases h0 : d = 0
    · subst h0; decide
    · have := (Nat.log2_lt h0).mpr this
      show d.log2 < 1900
      omega
  have cells : ∀ c : List Nat, CellsN N c → (encC c).all (pOk 4) = true := by
    intro c hc
    rw [List.all_eq_true]
    intro x hx
    obtain ⟨d, hd, rfl⟩ := List.mem_map.mp hx
    obtain ⟨i, hi, rfl⟩ := List.getElem_of_mem hd
    have := hc.2 i
    rw [show cg c i = c[i] by unfold cg; rw [List.getD_eq_getElem?_getD, List.getElem?_eq_getElem hi]; rfl] at this
    exact decide_eq_true (lg _ this)
  unfold enS
  simp only [pOk, Bool.and_eq_true, decide_eq_true_eq, List.length_map]
  refine ⟨?_, hl⟩
  rw [List.all_eq_true]
  intro x hx
  obtain ⟨p, hp, rfl⟩ := List.mem_map.mp hx
  obtain ⟨h1, h2⟩ := h p hp
  have lc : (encC p.1).length ≤ 20 := by unfold encC; rw [List.length_map, h1.1]; exact hN
  have l2 := lg p.2 (by omega)
  simp only [pOk, List.all_cons, List.all_nil, cells p.1 h1, Bool.true_and, Bool.and_true, Bool.and_eq_true, decide_eq_true_eq, List.length_cons, List.length_nil]
  exact ⟨⟨lc, l2⟩, by decide⟩
theorem pjust_S {N : Nat} (hN : N ≤ 20) {s : StA} (h : StOk N s) (hl : s.length ≤ 20) : f_pis_just [enS s, enS s] = .ok (.bl true, []) := by
  have hp := pOk_S hN h hl
  have := (just_any 7 _ _ (pOk_okJ _ _ hp) hp).2
  rw [jB_self _ _ hp] at this
  exact this
theorem pis_word_eq {m n : Nat} : ∀ w : List Nat, (∀ d ∈ w, d < m) → w.length ≤ n → w.length ≤ 1000 → f_pis_word [enW w, .int m, .int n] = .ok (.bl true, []) := by
  intro w hw hl hl2
  have key : ∀ (v : List Nat) (x0 x3 : Option MV), (∀ d ∈ v, d < m) → ∃ y3, mLoop (gSet 3) b_pis_word_0 (encC v) [x0, some (.int m), some (.int n), x3] = .ok (.nx, [x0, some (.int m), some (.int n), y3]) := by
    intro v x0
    induction v with
    | nil => intro x3 _; exact ⟨x3, rfl⟩
    | cons d v ih =>
      intro x3 hv
      obtain ⟨y3, e⟩ := ih (some (.int d)) fun z hz => hv z (List.mem_cons_of_mem _ hz)
      refine ⟨y3, ?_⟩
      have hd := hv d (List.mem_cons_self ..)
      have bo : b_pis_word_0 [x0, some (.int m), some (.int n), some (.int d)] = .ok (.nx, [x0, some (.int m), some (.int n), some (.int d)]) := by
        have h0 : (0 : Int) ≤ (d : Int) := by omega
        simp [b_pis_word_0, bIsi, MV.kd, kdOf, Kd.isa, hd, h0]
      show mLoop (gSet 3) b_pis_word_0 (.int d :: encC v) _ = _
      rw [loop_c_nx rfl bo]
      exact e
  obtain ⟨y3, e⟩ := key w (some (enW w)) none hw
  have lW : (encC w).length = w.length := by unfold encC; exact List.length_map ..
  have zW : szOk w.length = true := szOk_small (by omega)
  refine mFn_ok ⟨[some (enW w), some (.int m), some (.int n), y3], ?_⟩
  have tW : enW w = .tup (encC w) := rfl
  rw [tW] at e ⊢
  generalize encC w = W at *
  have ng : ¬ n < w.length := by omega
  show m_pis_word [some (.tup W), some (.int m), some (.int n), none] = _
  simp [m_pis_word, bIsi, MV.kd, kdOf, Kd.isa, lW, zW, ng, e]
theorem pstate_of_eq {tb : Nat → Nat → Nat} {nt N : Nat} {tabs : List MV} (ht : TabsAre tb nt tabs) (hb : TabLt tb nt) (hN : N ≤ 256) {rs : List Rw} (hr : rs.all (okN N nt) = true) {s : StA} (h : StOk N s) (hl : s.length ≤ 1000) (w : List Nat) (hw : WordOk rs w) :
    f_pstate_of [.tup tabs, .tup (rs.map enR), enS s, enW w] = .ok (enS (actA tb rs s w), []) := by
  have key : ∀ (v : List Nat) (t : StA) (x3 x5 : Option MV), StOk N t → t.length ≤ 1000 → WordOk rs v → ∃ y5, mLoop (gSet 5) b_pstate_of_0 (encC v) [some (.tup tabs), some (.tup (rs.map enR)), some (enS s), x3, some (enS t), x5] = .ok (.nx, [some (.tup tabs), some (.tup (rs.map enR)), some (enS s), x3, some (enS (actA tb rs t v)), y5]) := by
    intro v
    induction v with
    | nil => intro t x3 x5 _ _ _; exact ⟨x5, rfl⟩
    | cons k v ih =>
      intro t x3 x5 h1 h2 h3
      have hk : k < rs.length := h3 k (List.mem_cons_self ..)
      have rk : okN N nt rs[k] = true := List.all_eq_true.mp hr _ (List.getElem_mem hk)
      have be := pbehind_eq ht hb hN rk h1 h2
      obtain ⟨y5, e⟩ := ih (behA tb rs[k] t) x3 (some (.int k)) (behA_ok hb rk h1) (by rw [behA_len]; exact h2) (fun j hj => h3 j (List.mem_cons_of_mem _ hj))
      refine ⟨y5, ?_⟩
      have ak := at_map enR hk
      have ea : actA tb rs t (k :: v) = actA tb rs (behA tb rs[k] t) v := by
        show actA tb rs (match rs[k]? with | some r => behA tb r t | none => t) v = _
        rw [List.getElem?_eq_getElem hk]
      have bo : b_pstate_of_0 [some (.tup tabs), some (.tup (rs.map enR)), some (enS s), x3, some (enS t), some (.int k)] = .ok (.nx, [some (.tup tabs), some (.tup (rs.map enR)), some (enS s), x3, some (enS (behA tb rs[k] t)), some (.int k)]) := by
        clear e ih
        have tE : ∃ X, enR rs[k] = .tup X := by cases rs[k] <;> exact ⟨_, rfl⟩
        have tS : ∃ X, enS s = .tup X := ⟨_, rfl⟩
        have tT : ∃ X, enS t = .tup X := ⟨_, rfl⟩
        have tB : ∃ X, enS (behA tb rs[k] t) = .tup X := ⟨_, rfl⟩
        generalize enS (behA tb rs[k] t) = B at *
        generalize enR rs[k] = R1 at *
        generalize rs.map enR = R at *
        generalize enS s = S at *
        generalize enS t = T at *
        obtain ⟨X1, rfl⟩ := tE
        obtain ⟨X2, rfl⟩ := tS
        obtain ⟨X3, rfl⟩ := tT
        obtain ⟨X4, rfl⟩ := tB
        simp [b_pstate_of_0, ak, be]
      have hg : gSet 5 (.int k) [some (.tup tabs), some (.tup (rs.map enR)), some (enS s), x3, some (enS t), x5] = some [some (.tup tabs), some (.tup (rs.map enR)), some (enS s), x3, some (enS t), some (.int k)] := rfl
      show mLoop (gSet 5) b_pstate_of_0 (.int k :: encC v) _ = _
      rw [loop_c_nx hg bo, ea]
      exact e
  obtain ⟨y5, e⟩ := key w s (some (enW w)) none h hl hw
  refine mFn_ok ⟨[some (.tup tabs), some (.tup (rs.map enR)), some (enS s), some (enW w), some (enS (actA tb rs s w)), y5], ?_⟩
  have tS : ∃ X, enS s = .tup X := ⟨_, rfl⟩
  have tA : ∃ X, enS (actA tb rs s w) = .tup X := ⟨_, rfl⟩
  have tW : enW w = .tup (encC w) := rfl
  rw [tW] at e ⊢
  generalize enS (actA tb rs s w) = A at *
  generalize enS s = S at *
  generalize rs.map enR = R at *
  generalize encC w = W at *
  obtain ⟨X1, rfl⟩ := tS
  obtain ⟨X2, rfl⟩ := tA
  show m_pstate_of [some (.tup tabs), some (.tup R), some (.tup X1), some (.tup W), none, none] = _
  simp [m_pstate_of, e]
theorem ppairs_right_eq {tb : Nat → Nat → Nat} {nt N : Nat} {tabs : List MV} (ht : TabsAre tb nt tabs) (hb : TabLt tb nt) (hN : N ≤ 20) {rs : List Rw} (hr : rs.all (okN N nt) = true) (hr4 : rs.length ≤ 1000) {s : StA} (h : StOk N s) (hl : s.length ≤ 20) {n : Nat} (hn : n ≤ 1000) {P : List (List Nat × StA)} (hP : ∀ q ∈ P, WordOk rs q.1 ∧ q.1.length ≤ n ∧ q.2 = actA tb rs s q.1) {Q : List (List Nat × StA)} {st : StA} (h0 : P = ([], st) :: Q) (hPl : P.length ≤ 1000) :
    f_ppairs_right [.tup tabs, .tup (rs.map enR), enS s, .int n, .tup (P.map enPr)] = .ok (.bl true, []) := by
  have lR : (rs.map enR).length = rs.length := List.length_map ..
  have zR : szOk rs.length = true := szOk_small (by omega)
  have a0 : ∀ (x y : MV), atI [x, y] 0 = some x := fun x y => by rw [atI_ge (by decide)]; rfl
  have a1 : ∀ (x y : MV), atI [x, y] 1 = some y := fun x y => by rw [atI_ge (by decide)]; rfl
  have key : ∀ (l : List (List Nat × StA)) (x4 x5 : Option MV), (∀ q ∈ l, WordOk rs q.1 ∧ q.1.length ≤ n ∧ q.2 = actA tb rs s q.1) → ∃ y5, mLoop (gSet 5) b_ppairs_right_0 (l.map enPr) [some (.tup tabs), some (.tup (rs.map enR)), some (enS s), some (.int n), x4, x5] = .ok (.nx, [some (.tup tabs), some (.tup (rs.map enR)), some (enS s), some (.int n), x4, y5]) := by
    intro l x4
    induction l with
    | nil => intro x5 _; exact ⟨x5, rfl⟩
    | cons q l ih =>
      intro x5 hq
      obtain ⟨w1, w2, w3⟩ := hq q (List.mem_cons_self ..)
      obtain ⟨y5, e⟩ := ih (some (enPr q)) fun z hz => hq z (List.mem_cons_of_mem _ hz)
      refine ⟨y5, ?_⟩
      have i1 := pis_word_eq (m := rs.length) (n := n) q.1 w1 w2 (by omega)
      have so := pstate_of_eq ht hb (by omega) hr h (by omega) q.1 w1
      obtain ⟨ao, al⟩ := actA_ok hb hr q.1 s h
      have js := pjust_S hN ao (by omega)
      have eq : enPr q = .tup [enW q.1, enS (actA tb rs s q.1)] := by unfold enPr; rw [w3]
      have bo : b_ppairs_right_0 [some (.tup tabs), some (.tup (rs.map enR)), some (enS s), some (.int n), x4, some (enPr q)] = .ok (.nx, [some (.tup tabs), some (.tup (rs.map enR)), some (enS s), some (.int n), x4, some (enPr q)]) := by
        rw [eq]
        clear e ih eq
        have tS : ∃ X, enS s = .tup X := ⟨_, rfl⟩
        have tA : ∃ X, enS (actA tb rs s q.1) = .tup X := ⟨_, rfl⟩
        have tW : ∃ X, enW q.1 = .tup X := ⟨_, rfl⟩
        generalize enS (actA tb rs s q.1) = A at *
        generalize enS s = S at *
        generalize rs.map enR = R at *
        generalize enW q.1 = W at *
        obtain ⟨X1, rfl⟩ := tS
        obtain ⟨X2, rfl⟩ := tA
        obtain ⟨X3, rfl⟩ := tW
        simp [b_ppairs_right_0, bIsi, MV.kd, kdOf, Kd.isa, lR, zR, a0, a1, i1, so, js, szOk_small]
      rw [List.map_cons, loop_c_nx rfl bo]
      exact e
  obtain ⟨y5, e⟩ := key P (some (.tup (P.map enPr))) none hP
  refine mFn_ok ⟨[some (.tup tabs), some (.tup (rs.map enR)), some (enS s), some (.int n), some (.tup (P.map enPr)), y5], ?_⟩
  have lP : (P.map enPr).length = P.length := List.length_map ..
  have zP : szOk P.length = true := szOk_small (by omega)
  have nz : ¬ P = [] := by rw [h0]; simp
  have ah : atI (P.map enPr) 0 = some (.tup [.tup [], enS st]) := by rw [h0, List.map_cons, atI_ge (by decide)]; rfl
  have tS : ∃ X, enS s = .tup X := ⟨_, rfl⟩
  generalize enS s = S at *
  generalize rs.map enR = R at *
  generalize P.map enPr = PM at *
  obtain ⟨X1, rfl⟩ := tS
  have e00 : fEq (.tup []) (.tup []) = some (.bl true) := rfl
  show m_ppairs_right [some (.tup tabs), some (.tup R), some (.tup X1), some (.int n), some (.tup PM), none] = _
  simp [m_ppairs_right, bIsi, MV.kd, kdOf, Kd.isa, lP, zP, nz, e, ah, a0, e00, szOk_small]
theorem zip_map_f {α β γ : Type} (f : α × β → γ) : ∀ (a : List α) (b : List β), a.length = b.length → a.zip ((a.zip b).map f) = (a.zip b).map fun p => (p.1, f p)
  | [], [], _ => rfl
  | [], _ :: _, h => by simp at h
  | _ :: _, [], h => by simp at h
  | x :: a, y :: b, h => by
    rw [List.zip_cons_cons, List.map_cons, List.map_cons, List.zip_cons_cons, zip_map_f f a b (by simpa using h)]
theorem ndAt_put {ks xs : List MV} (hl : ks.length = xs.length) {y : MV} {k : NestedKey} (hy : nkI y = some k) (z : MV) (k' : NestedKey) : ndAt (ndPut ks xs y k z).1 (ndPut ks xs y k z).2 k' = if k' = k then some z else ndAt ks xs k' := by
  unfold ndPut
  cases h : (ndAt ks xs k).isSome with
  | true =>
    rw [if_pos rfl]
    show ndAt ks ((ks.zip xs).map fun p => if nkI p.1 = some k then z else p.2) k' = _
    unfold ndAt at h ⊢
    rw [zip_map_f _ ks xs hl, List.find?_map, Option.map_map]
    have e : ((fun p : MV × MV => decide (nkI p.1 = some k')) ∘ fun p : MV × MV => (p.1, if nkI p.1 = some k then z else p.2)) = fun p => decide (nkI p.1 = some k') := rfl
    rw [e]
    rw [Option.isSome_map] at h
    by_cases hk : k' = k
    · subst hk
      rw [if_pos rfl]
      obtain ⟨p, hp⟩ := Option.isSome_iff_exists.mp h
      have h2 := List.find?_some hp
      simp at h2
      rw [hp]
      simp [h2]
    · rw [if_neg hk]
      cases hf : (ks.zip xs).find? fun p => decide (nkI p.1 = some k') with
      | none => rfl
      | some p =>
        have h2 := List.find?_some hf
        simp at h2
        have : ¬ nkI p.1 = some k := fun e2 => hk (Option.some.inj (h2.symm.trans e2))
        simp [this]
  | false =>
    rw [if_neg (by simp)]
    show ndAt (ks ++ [y]) (xs ++ [z]) k' = _
    unfold ndAt at h ⊢
    rw [List.zip_append hl, List.find?_append]
    rw [Option.isSome_map] at h
    by_cases hk : k' = k
    · subst hk
      rw [if_pos rfl, Option.isSome_eq_false_iff.mp h |> Option.isNone_iff_eq_none.mp]
      simp [hy]
    · rw [if_neg hk]
      have : ¬ some k = some k' := fun e => hk (Option.some.inj e).symm
      cases (ks.zip xs).find? fun p => decide (nkI p.1 = some k') with
      | none => simp [hy, this]
      | some p => rfl
theorem ndPut_len {ks xs : List MV} (hl : ks.length = xs.length) (y : MV) (k : NestedKey) (z : MV) : (ndPut ks xs y k z).1.length = (ndPut ks xs y k z).2.length ∧ (ndPut ks xs y k z).1.length ≤ ks.length + 1 := by
  unfold ndPut
  cases (ndAt ks xs k).isSome with
  | true =>
    rw [if_pos rfl]
    refine ⟨?_, Nat.le_succ _⟩
    show ks.length = ((ks.zip xs).map _).length
    rw [List.length_map, List.length_zip, ← hl, Nat.min_self]
  | false =>
    rw [if_neg (by simp)]
    exact ⟨by simp [hl], by simp⟩
def SoK (ks xs : List MV) (f : StA → Option Nat) : Prop := ks.length = xs.length ∧ ∀ t, ndAt ks xs (nkS t) = (f t).map fun m : Nat => .int m
def sooner (n : Nat) (f : StA → Option Nat) (q : List Nat × StA) : StA → Option Nat := fun t => if t = q.2 then some (if (f q.2).getD n < q.1.length then (f q.2).getD n else q.1.length) else f t
def soon (n : Nat) : List (List Nat × StA) → (StA → Option Nat) → StA → Option Nat
  | [], f => f
  | q :: l, f => soon n l (sooner n f q)
theorem soK_put {ks xs : List MV} {f : StA → Option Nat} (h : SoK ks xs f) (n : Nat) (q : List Nat × StA) : SoK (ndPut ks xs (enS q.2) (nkS q.2) (.int (if (f q.2).getD n < q.1.length then (f q.2).getD n else q.1.length : Nat))).1 (ndPut ks xs (enS q.2) (nkS q.2) (.int (if (f q.2).getD n < q.1.length then (f q.2).getD n else q.1.length : Nat))).2 (sooner n f q) := by
  refine ⟨(ndPut_len h.1 _ _ _).1, fun t => ?_⟩
  rw [ndAt_put h.1 (nkI_S q.2), h.2 t]
  unfold sooner
  by_cases e : t = q.2
  · rw [if_pos (by rw [e]), if_pos e]; rfl
  · rw [if_neg (fun z => e (nkS_inj z)), if_neg e]
theorem soon_le (n : Nat) : ∀ (l : List (List Nat × StA)) (f : StA → Option Nat) (t : StA) (m : Nat), f t = some m → ∃ m', soon n l f t = some m' ∧ m' ≤ m
  | [], f, t, m, h => ⟨m, h, Nat.le_refl _⟩
  | q :: l, f, t, m, h => by
    by_cases e : t = q.2
    · have h2 : sooner n f q t = some (if (f q.2).getD n < q.1.length then (f q.2).getD n else q.1.length) := by unfold sooner; rw [if_pos e]
      obtain ⟨m', e1, e2⟩ := soon_le n l (sooner n f q) t _ h2
      refine ⟨m', e1, Nat.le_trans e2 ?_⟩
      rw [← e, h]
      show (if m < q.1.length then m else q.1.length) ≤ m
      by_cases h3 : m < q.1.length
      · rw [if_pos h3]; exact Nat.le_refl _
      · rw [if_neg h3]; omega
    · have h2 : sooner n f q t = some m := by unfold sooner; rw [if_neg e]; exact h
      exact soon_le n l (sooner n f q) t m h2
theorem soon_in (n : Nat) : ∀ (l : List (List Nat × StA)) (f : StA → Option Nat) (q : List Nat × StA), q ∈ l → ∃ m', soon n l f q.2 = some m' ∧ m' ≤ q.1.length
  | [], _, _, h => nomatch h
  | p :: l, f, q, h => by
    rcases List.mem_cons.mp h with rfl | h
    · have h2 : sooner n f q q.2 = some (if (f q.2).getD n < q.1.length then (f q.2).getD n else q.1.length) := by unfold sooner; rw [if_pos rfl]
      obtain ⟨m', e1, e2⟩ := soon_le n l (sooner n f q) q.2 _ h2
      refine ⟨m', e1, Nat.le_trans e2 ?_⟩
      by_cases h3 : (f q.2).getD n < q.1.length
      · rw [if_pos h3]; omega
      · rw [if_neg h3]; exact Nat.le_refl _
    · exact soon_in n l (sooner n f p) q h
theorem pshut_fill {n : Nat} (x0 x1 x3 x7 : Option MV) : ∀ (l : List (List Nat × StA)) (ks xs : List MV) (f : StA → Option Nat) (x5 x6 : Option MV), SoK ks xs f → ks.length + l.length ≤ 1000 → (∀ q ∈ l, q.1.length ≤ 1000) →
    ∃ ks' xs' y5 y6, SoK ks' xs' (soon n l f) ∧ mLoop (gTp 2 (gsCons (gSet 5) (gsCons (gSet 6) gsNil))) b_ppairs_shut_0 (l.map enPr) [x0, x1, some (.int n), x3, some (.dot ks xs), x5, x6, x7] = .ok (.nx, [x0, x1, some (.int n), x3, some (.dot ks' xs'), y5, y6, x7])
  | [], ks, xs, f, x5, x6, h, _, _ => ⟨ks, xs, x5, x6, h, rfl⟩
  | q :: l, ks, xs, f, x5, x6, h, hl, hw => by
    have h2 := soK_put h n q
    have l2 := (ndPut_len h.1 (enS q.2) (nkS q.2) (.int (if (f q.2).getD n < q.1.length then (f q.2).getD n else q.1.length : Nat))).2
    rw [List.length_cons] at hl
    obtain ⟨ks', xs', y5, y6, g, e⟩ := pshut_fill x0 x1 x3 x7 l _ _ (sooner n f q) (some (enW q.1)) (some (enS q.2)) h2 (by omega) fun z hz => hw z (List.mem_cons_of_mem _ hz)
    refine ⟨ks', xs', y5, y6, g, ?_⟩
    have hg : gTp 2 (gsCons (gSet 5) (gsCons (gSet 6) gsNil)) (enPr q) [x0, x1, some (.int n), x3, some (.dot ks xs), x5, x6, x7] = some [x0, x1, some (.int n), x3, some (.dot ks xs), some (enW q.1), some (enS q.2), x7] := rfl
    have lW : (encC q.1).length = q.1.length := by unfold encC; exact List.length_map ..
    have hq := hw q (List.mem_cons_self ..)
    have zW : szOk q.1.length = true := szOk_small (by omega)
    have nk := nkK_S q.2
    have lk : ks.length ≤ 10000 := by omega
    have ga : (ndAt ks xs (nkS q.2)).getD (.int n) = .int ((f q.2).getD n : Nat) := by
      rw [h.2]
      cases f q.2 <;> rfl
    have emin : (if (((f q.2).getD n : Nat) : Int) < (q.1.length : Int) then (((f q.2).getD n : Nat) : Int) else (q.1.length : Int)) = ((if (f q.2).getD n < q.1.length then (f q.2).getD n else q.1.length : Nat) : Int) := by
      by_cases h3 : (f q.2).getD n < q.1.length
      · rw [if_pos h3, if_pos (by omega)]
      · rw [if_neg h3, if_neg (by omega)]
    have bo : b_ppairs_shut_0 [x0, x1, some (.int n), x3, some (.dot ks xs), some (enW q.1), some (enS q.2), x7] = .ok (.nx, [x0, x1, some (.int n), x3, some (.dot (ndPut ks xs (enS q.2) (nkS q.2) (.int (if (f q.2).getD n < q.1.length then (f q.2).getD n else q.1.length : Nat))).1 (ndPut ks xs (enS q.2) (nkS q.2) (.int (if (f q.2).getD n < q.1.length then (f q.2).getD n else q.1.length : Nat))).2), some (enW q.1), some (enS q.2), x7]) := by
      rw [← emin]
      clear e emin
      have tS : ∃ X, enS q.2 = .tup X := ⟨_, rfl⟩
      have tW : enW q.1 = .tup (encC q.1) := rfl
      rw [tW]
      generalize (f q.2).getD n = gg at *
      generalize nkS q.2 = NK at *
      generalize enS q.2 = S at *
      generalize encC q.1 = W at *
      obtain ⟨X, rfl⟩ := tS
      simp [b_ppairs_shut_0, lW, zW, nk, ga, isDot, lk]
    rw [List.map_cons, loop_c_nx hg bo]
    exact e
theorem pshut_rows {tb : Nat → Nat → Nat} {nt N : Nat} {tabs : List MV} (ht : TabsAre tb nt tabs) (hb : TabLt tb nt) (hN : N ≤ 256) {s : StA} (h : StOk N s) (hl : s.length ≤ 1000) {w : List Nat} {n : Nat} {ks xs : List MV} {F : StA → Option Nat} (hF : SoK ks xs F) (hw : w.length ≤ 1000) (x1 x3 : Option MV) : ∀ (rs : List Rw) (x7 : Option MV), rs.all (okN N nt) = true → (∀ r ∈ rs, ∃ m, F (behA tb r s) = some m ∧ m ≤ w.length + 1) →
    ∃ y7, mLoop (gSet 7) b_ppairs_shut_1 (rs.map enR) [some (.tup tabs), x1, some (.int n), x3, some (.dot ks xs), some (enW w), some (enS s), x7] = .ok (.nx, [some (.tup tabs), x1, some (.int n), x3, some (.dot ks xs), some (enW w), some (enS s), y7])
  | [], x7, _, _ => ⟨x7, rfl⟩
  | r :: rs, x7, hr, hm => by
    rw [List.all_cons, Bool.and_eq_true] at hr
    obtain ⟨m, m1, m2⟩ := hm r (List.mem_cons_self ..)
    obtain ⟨y7, e⟩ := pshut_rows ht hb hN h hl hF hw x1 x3 rs (some (enR r)) hr.2 fun z hz => hm z (List.mem_cons_of_mem _ hz)
    refine ⟨y7, ?_⟩
    have be := pbehind_eq ht hb hN hr.1 h hl
    have nk := nkK_S (behA tb r s)
    have ga : ∀ z, (ndAt ks xs (nkS (behA tb r s))).getD z = .int m := by
      intro z
      rw [hF.2, m1]
      rfl
    have lW : (encC w).length = w.length := by unfold encC; exact List.length_map ..
    have zW : szOk w.length = true := szOk_small (by omega)
    have ng : ¬ ((w.length : Int) + 1 < (m : Int)) := by omega
    have bo : b_ppairs_shut_1 [some (.tup tabs), x1, some (.int n), x3, some (.dot ks xs), some (enW w), some (enS s), some (enR r)] = .ok (.nx, [some (.tup tabs), x1, some (.int n), x3, some (.dot ks xs), some (enW w), some (enS s), some (enR r)]) := by
      clear e
      have tS : ∃ X, enS s = .tup X := ⟨_, rfl⟩
      have tB : ∃ X, enS (behA tb r s) = .tup X := ⟨_, rfl⟩
      have tE : ∃ X, enR r = .tup X := by cases r <;> exact ⟨_, rfl⟩
      have tW : enW w = .tup (encC w) := rfl
      rw [tW]
      generalize nkS (behA tb r s) = NK at *
      generalize enS (behA tb r s) = B at *
      generalize enS s = S at *
      generalize enR r = R at *
      generalize encC w = W at *
      obtain ⟨X, rfl⟩ := tS
      obtain ⟨X2, rfl⟩ := tB
      obtain ⟨X3, rfl⟩ := tE
      simp [b_ppairs_shut_1, be, nk, ga, isDot, lW, zW, ng]
    rw [List.map_cons, loop_c_nx rfl bo]
    exact e
theorem ppairs_shut_eq {tb : Nat → Nat → Nat} {nt N : Nat} {tabs : List MV} (ht : TabsAre tb nt tabs) (hb : TabLt tb nt) (hN : N ≤ 256) {rs : List Rw} (hr : rs.all (okN N nt) = true) {n : Nat} (hn : n ≤ 100) {P : List (List Nat × StA)} (hP : ∀ q ∈ P, StOk N q.2 ∧ q.2.length ≤ 1000 ∧ q.1.length ≤ n) (hPl : P.length ≤ 1000)
    (hc : ∀ q ∈ P, q.1.length < n → ∀ r ∈ rs, ∃ q' ∈ P, q'.2 = behA tb r q.2 ∧ q'.1.length ≤ q.1.length + 1) :
    f_ppairs_shut [.tup tabs, .tup (rs.map enR), .int n, .tup (P.map enPr)] = .ok (.bl true, []) := by
  have h0 : SoK [] [] (fun _ => none) := ⟨rfl, fun t => rfl⟩
  obtain ⟨ks, xs, y5, y6, hF, e1⟩ := pshut_fill (n := n) (some (.tup tabs)) (some (.tup (rs.map enR))) (some (.tup (P.map enPr))) none P [] [] (fun _ => none) none none h0 (by simpa using hPl) fun q hq => by have := (hP q hq).2.2; omega
  have key : ∀ (l : List (List Nat × StA)) (x5 x6 x7 : Option MV), (∀ q ∈ l, q ∈ P) → ∃ z5 z6 z7, mLoop (gTp 2 (gsCons (gSet 5) (gsCons (gSet 6) gsNil))) b_ppairs_shut_2 (l.map enPr) [some (.tup tabs), some (.tup (rs.map enR)), some (.int n), some (.tup (P.map enPr)), some (.dot ks xs), x5, x6, x7] = .ok (.nx, [some (.tup tabs), some (.tup (rs.map enR)), some (.int n), some (.tup (P.map enPr)), some (.dot ks xs), z5, z6, z7]) := by
    intro l
    induction l with
    | nil => intro x5 x6 x7 _; exact ⟨x5, x6, x7, rfl⟩
    | cons q l ih =>
      intro x5 x6 x7 hl
      have hq := hl q (List.mem_cons_self ..)
      obtain ⟨q1, q2, q3⟩ := hP q hq
      have hg : gTp 2 (gsCons (gSet 5) (gsCons (gSet 6) gsNil)) (enPr q) [some (.tup tabs), some (.tup (rs.map enR)), some (.int n), some (.tup (P.map enPr)), some (.dot ks xs), x5, x6, x7] = some [some (.tup tabs), some (.tup (rs.map enR)), some (.int n), some (.tup (P.map enPr)), some (.dot ks xs), some (enW q.1), some (enS q.2), x7] := rfl
      have lW : (encC q.1).length = q.1.length := by unfold encC; exact List.length_map ..
      have zW : szOk q.1.length = true := szOk_small (by omega)
      have tW : enW q.1 = .tup (encC q.1) := rfl
      have tS : ∃ X, enS q.2 = .tup X := ⟨_, rfl⟩
      by_cases hlt : q.1.length < n
      · obtain ⟨y7, er⟩ := pshut_rows ht hb hN q1 q2 (w := q.1) (n := n) hF (by omega) (some (.tup (rs.map enR))) (some (.tup (P.map enPr))) rs x7 hr fun r hr' => by
          obtain ⟨q', m1, m2, m3⟩ := hc q hq hlt r hr'
          obtain ⟨m, k1, k2⟩ := soon_in n P (fun _ => none) q' m1
          rw [m2] at k1
          exact ⟨m, k1, by omega⟩
        obtain ⟨z5, z6, z7, e⟩ := ih (some (enW q.1)) (some (enS q.2)) y7 fun z hz => hl z (List.mem_cons_of_mem _ hz)
        refine ⟨z5, z6, z7, ?_⟩
        have bo : b_ppairs_shut_2 [some (.tup tabs), some (.tup (rs.map enR)), some (.int n), some (.tup (P.map enPr)), some (.dot ks xs), some (enW q.1), some (enS q.2), x7] = .ok (.nx, [some (.tup tabs), some (.tup (rs.map enR)), some (.int n), some (.tup (P.map enPr)), some (.dot ks xs), some (enW q.1), some (enS q.2), y7]) := by
          clear e ih
          rw [tW] at er ⊢
          generalize P.map enPr = PM at *
          generalize rs.map enR = R at *
          generalize enS q.2 = S at *
          generalize encC q.1 = W at *
          obtain ⟨X, rfl⟩ := tS
          simp [b_ppairs_shut_2, lW, zW, hlt, er]
        rw [List.map_cons, loop_c_nx hg bo]
        exact e
      · obtain ⟨z5, z6, z7, e⟩ := ih (some (enW q.1)) (some (enS q.2)) x7 fun z hz => hl z (List.mem_cons_of_mem _ hz)
        refine ⟨z5, z6, z7, ?_⟩
        have bo : b_ppairs_shut_2 [some (.tup tabs), some (.tup (rs.map enR)), some (.int n), some (.tup (P.map enPr)), some (.dot ks xs), some (enW q.1), some (enS q.2), x7] = .ok (.nx, [some (.tup tabs), some (.tup (rs.map enR)), some (.int n), some (.tup (P.map enPr)), some (.dot ks xs), some (enW q.1), some (enS q.2), x7]) := by
          clear e ih
          rw [tW]
          generalize P.map enPr = PM at *
          generalize rs.map enR = R at *
          generalize enS q.2 = S at *
          generalize encC q.1 = W at *
          obtain ⟨X, rfl⟩ := tS
          simp [b_ppairs_shut_2, lW, zW, hlt]
        rw [List.map_cons, loop_c_nx hg bo]
        exact e
  obtain ⟨z5, z6, z7, e2⟩ := key P y5 y6 none fun _ h => h
  refine mFn_ok ⟨[some (.tup tabs), some (.tup (rs.map enR)), some (.int n), some (.tup (P.map enPr)), some (.dot ks xs), z5, z6, z7], ?_⟩
  generalize P.map enPr = PM at *
  generalize rs.map enR = R at *
  show m_ppairs_shut [some (.tup tabs), some (.tup R), some (.int n), some (.tup PM), none, none, none, none] = _
  simp [m_ppairs_shut, e1, e2]
theorem shaped_of {n : Nat} (hn : n ≤ 64) {x : MV} {d : PyData} (h : okD n x = true) (hd : toD x = some d) : SeqAt.shaped d = true := by
  obtain ⟨d', e, c, p⟩ := okD_to n x h
  rw [hd] at e
  cases e
  unfold SeqAt.shaped
  rw [c]
  simp
  omega
theorem eqM_of {x y : MV} {d e : PyData} (hs : scalM x y = false) (hx : okD 20 x = true) (hy : okD 20 y = true) (dx : toD x = some d) (dy : toD y = some e) : fEq x y = some (.bl (PyData.eqv d e)) := by
  unfold fEq eqM
  rw [if_neg (by rw [hs]; decide), dx, dy]
  simp only [shaped_of (by decide) hx dx, shaped_of (by decide) hy dy, Bool.and_self, if_true]
  rfl
def dW (w : List Nat) : PyData := .tuple (w.map fun d : Nat => .int d)
theorem toDs_ints : ∀ w : List Nat, toDs (encC w) = some (w.map fun d : Nat => PyData.int d)
  | [] => by unfold encC; rw [List.map_nil]; unfold toDs; rfl
  | d :: w => by
    show toDs (.int d :: encC w) = _
    rw [toDs, toDs_ints w]
    unfold toD
    rfl
theorem toD_W (w : List Nat) : toD (enW w) = some (dW w) := by
  unfold enW
  rw [toD, toDs_ints]
  rfl
theorem okD_encC (c : List Nat) (k : Nat) : (encC c).all (okD k) = true := by
  rw [List.all_eq_true]
  intro x hx
  obtain ⟨d, _, rfl⟩ := List.mem_map.mp hx
  exact okD_i
theorem okD_W (w : List Nat) (k : Nat) : okD (k + 1) (enW w) = true := okD_encC w k
theorem eqv_W : ∀ a b : List Nat, PyData.eqv (dW a) (dW b) = decide (a = b)
  | [], [] => by unfold dW; rw [PyData.eqv]; rfl
  | [], _ :: _ => by unfold dW; rw [PyData.eqv]; rfl
  | _ :: _, [] => by unfold dW; rw [PyData.eqv]; rfl
  | x :: a, y :: b => by
    have ih := eqv_W a b
    unfold dW at ih ⊢
    rw [PyData.eqv] at ih ⊢
    rw [List.map_cons, List.map_cons, PyData.eqvAll, ih, PyData.eqv]
    by_cases h : x = y
    · subst h
      simp
    · have : ¬ ((x : Int) = (y : Int)) := fun e => h (Int.ofNat.inj e)
      simp [h, this]
theorem fEq_W (a b : List Nat) : fEq (enW a) (enW b) = some (.bl (decide (a = b))) := by
  rw [eqM_of rfl (okD_W a 19) (okD_W b 19) (toD_W a) (toD_W b), eqv_W]
theorem toDs_Ws : ∀ l : List (List Nat), toDs (l.map enW) = some (l.map dW)
  | [] => by rw [List.map_nil]; unfold toDs; rfl
  | w :: l => by
    rw [List.map_cons, toDs, toDs_Ws l, toD_W]
    rfl
theorem eqv_Ws : ∀ a b : List (List Nat), PyData.eqvAll (a.map dW) (b.map dW) = decide (a = b)
  | [], [] => by rw [List.map_nil, PyData.eqvAll]; rfl
  | [], _ :: _ => by rw [List.map_nil, List.map_cons, PyData.eqvAll]; rfl
  | _ :: _, [] => by rw [List.map_nil, List.map_cons, PyData.eqvAll]; rfl
  | x :: a, y :: b => by
    rw [List.map_cons, List.map_cons, PyData.eqvAll, eqv_Ws a b, eqv_W]
    by_cases h : x = y
    · subst h
      simp
    · simp [h]
theorem fEq_Ws (a b : List (List Nat)) : fEq (.lst (a.map enW)) (.lst (b.map enW)) = some (.bl (decide (a = b))) := by
  have ok : ∀ l : List (List Nat), okD 20 (.lst (l.map enW)) = true := by
    intro l
    show (l.map enW).all (okD 19) = true
    rw [List.all_eq_true]
    intro x hx
    obtain ⟨w, _, rfl⟩ := List.mem_map.mp hx
    exact okD_W w 18
  have d : ∀ l : List (List Nat), toD (.lst (l.map enW)) = some (.list (l.map dW)) := by
    intro l
    rw [toD, toDs_Ws]
    rfl
  rw [eqM_of rfl (ok a) (ok b) (d a) (d b), PyData.eqv, eqv_Ws]
theorem okD_S2 (s : StA) (k : Nat) : okD (k + 3) (enS s) = true := by
  show (s.map fun p : List Nat × Nat => MV.tup [.tup (encC p.1), .int p.2]).all (okD (k + 2)) = true
  rw [List.all_eq_true]
  intro y hy
  obtain ⟨u, _, rfl⟩ := List.mem_map.mp hy
  show ([MV.tup (encC u.1), .int u.2].all (okD (k + 1))) = true
  rw [List.all_cons, List.all_cons, List.all_nil, okD_i]
  show (okD (k + 1) (.tup (encC u.1)) && (true && true)) = true
  rw [show okD (k + 1) (.tup (encC u.1)) = true from okD_encC u.1 k]
  rfl
theorem fEq_least (P : List (List Nat × StA)) (wl w : List Nat) : fEq (leastA P wl) (.tup [.str "least", enW w]) = some (.bl (match P.find? fun q => doesA q.2 wl with | some q => decide (q.1 = w) | none => false)) := by
  have o1 : okD 19 (.str "least") = true := by decide +kernel
  have o2 : okD 19 (.str "none") = true := by decide +kernel
  have d2 : ∀ w : List Nat, toD (.tup [.str "least", enW w]) = some (.tuple [.str "least", dW w]) := by
    intro w
    rw [toD, toDs, toDs, toDs, toD_W, toD]
    rfl
  have k2 : ∀ w : List Nat, okD 20 (.tup [.str "least", enW w]) = true := by
    intro w
    show [MV.str "least", enW w].all (okD 19) = true
    rw [List.all_cons, List.all_cons, List.all_nil, okD_W w 18, o1]
    rfl
  unfold leastA
  cases P.find? fun q => doesA q.2 wl with
  | some q =>
    show fEq (.tup [.str "least", enW q.1]) _ = some (.bl (decide (q.1 = w)))
    rw [eqM_of rfl (k2 _) (k2 _) (d2 _) (d2 _), PyData.eqv, PyData.eqvAll, PyData.eqvAll, PyData.eqvAll, eqv_W, PyData.eqv]
    simp
  | none =>
    show fEq (.tup [.str "none", .tup (P.map enPr)]) _ = some (.bl false)
    have oP : okD 19 (.tup (P.map enPr)) = true := by
      show (P.map enPr).all (okD 18) = true
      rw [List.all_eq_true]
      intro x hx
      obtain ⟨q, _, rfl⟩ := List.mem_map.mp hx
      show [enW q.1, enS q.2].all (okD 17) = true
      rw [List.all_cons, List.all_cons, List.all_nil, okD_W q.1 16, okD_S2 q.2 14]
      rfl
    obtain ⟨d, hd, _⟩ := okD_to 19 _ oP
    have k1 : okD 20 (.tup [.str "none", .tup (P.map enPr)]) = true := by
      show [MV.str "none", .tup (P.map enPr)].all (okD 19) = true
      rw [List.all_cons, List.all_cons, List.all_nil, oP, o2]
      rfl
    have d1 : toD (.tup [.str "none", .tup (P.map enPr)]) = some (.tuple [.str "none", d]) := by
      rw [toD, toDs, toDs, toDs, hd, toD]
      rfl
    have ne : (("none" : Str) == ("least" : Str)) = false := by decide +kernel
    rw [eqM_of rfl k1 (k2 _) d1 (d2 _), PyData.eqv, PyData.eqvAll, PyData.eqv, ne]
    rfl
theorem pholds_least {tb : Nat → Nat → Nat} {nt N : Nat} (hb : TabLt tb nt) (h16 : nt ≤ 16) (hN1 : 1 ≤ N) (hN : N ≤ 256) {rs : List Rw} (hr : rs.all (okN N nt) = true) (h4 : rs.length ≤ 4) {s : StA} (h : StOk N s) (h1 : 1 ≤ s.length) (hl : s.length ≤ 1000) {n : Nat} (hn : n ≤ 4) {wl : List Nat} (hs : s.length = wl.length) {w : List Nat} (hw : WordOk rs w) (hwl : w.length ≤ n) :
    f_pleast_holds [.tup (tabsOf tb nt), .tup (rs.map enR), .tup (casesM s wl), .int n, .tup [.str "least", enW w]] = .ok (.bl (match (prA (stsA tb rs n s)).find? fun q => doesA q.2 wl with | some q => decide (q.1 = w) | none => false), []) := by
  have ps := pstarts_eq hs hl
  have hh := held66 hb h16 hN hr h4 h h1
  have pl := pleastS_eq hb h16 hN1 hN hr h4 h h1 hl hn hs
  have fe := fEq_least (prA (stsA tb rs n s)) wl w
  have iw := pis_word_eq (m := rs.length) (n := n) w hw hwl (by omega)
  have lR : (rs.map enR).length = rs.length := List.length_map ..
  have zR : szOk rs.length = true := szOk_small (by omega)
  have a0 : ∀ (x y : MV), atI [x, y] 0 = some x := fun x y => by rw [atI_ge (by decide)]; rfl
  have a1 : ∀ (x y : MV), atI [x, y] 1 = some y := fun x y => by rw [atI_ge (by decide)]; rfl
  have es : fEq (.str "least") (.str "least") = some (.bl true) := rfl
  refine mFn_ok ?_
  have tS : ∃ X, enS s = .tup X := ⟨_, rfl⟩
  have tW : ∃ X, enW w = .tup X := ⟨_, rfl⟩
  have tL : ∃ X, leastA (prA (stsA tb rs n s)) wl = .tup X := by
    unfold leastA
    cases (prA (stsA tb rs n s)).find? fun q => doesA q.2 wl with
    | some q => exact ⟨_, rfl⟩
    | none => exact ⟨_, rfl⟩
  generalize (match (prA (stsA tb rs n s)).find? fun q => doesA q.2 wl with | some q => decide (q.1 = w) | none => false) = bb at *
  generalize leastA (prA (stsA tb rs n s)) wl = LA at *
  generalize casesM s wl = C at *
  generalize tabsOf tb nt = T at *
  generalize rs.map enR = R at *
  generalize enS s = S at *
  generalize enW w = W at *
  obtain ⟨X, rfl⟩ := tS
  obtain ⟨X2, rfl⟩ := tW
  obtain ⟨X3, rfl⟩ := tL
  simp [m_pleast_holds, ps, hh, bIsi, MV.kd, kdOf, Kd.isa, szOk_small, a0, a1, es, lR, zR, iw, pl, fe]
theorem bAny_map {α : Type} (f : α → Bool) (l : List α) : bAny [.lst (l.map fun p => .bl (f p))] = some (.bl (l.any f)) := by
  have hb : blsOf (l.map fun p => .bl (f p)) = some (l.map f) := by
    induction l with
    | nil => rfl
    | cons a l ih => simp only [List.map_cons, blsOf, ih]; rfl
  show (blsOf (l.map fun p => .bl (f p))).map (fun bs => MV.bl (bs.any id)) = _
  rw [hb]
  simp [List.any_map, Function.comp_def]
theorem pholds_none {tb : Nat → Nat → Nat} {nt N : Nat} (hb : TabLt tb nt) (h16 : nt ≤ 16) (hN1 : 1 ≤ N) (hN : N ≤ 20) {rs : List Rw} (hr : rs.all (okN N nt) = true) (h4 : rs.length ≤ 4) {s : StA} (h : StOk N s) (h1 : 1 ≤ s.length) (hl : s.length ≤ 20) {n : Nat} (hn : n ≤ 4) {wl : List Nat} (hs : s.length = wl.length)
    {P : List (List Nat × StA)} (hP : ∀ q ∈ P, WordOk rs q.1 ∧ q.1.length ≤ n ∧ q.2 = actA tb rs s q.1) {Q : List (List Nat × StA)} {st : StA} (h0 : P = ([], st) :: Q) (hPl : P.length ≤ 1000)
    (hc : ∀ q ∈ P, q.1.length < n → ∀ r ∈ rs, ∃ q' ∈ P, q'.2 = behA tb r q.2 ∧ q'.1.length ≤ q.1.length + 1) :
    f_pleast_holds [.tup (tabsOf tb nt), .tup (rs.map enR), .tup (casesM s wl), .int n, .tup [.str "none", .tup (P.map enPr)]] = .ok (.bl (!P.any fun q => doesA q.2 wl), []) := by
  have ta : TabsAre tb nt (tabsOf tb nt) := tabs_gen tb nt
  have ps := pstarts_eq hs (by omega)
  have hh := held66 hb h16 (by omega) hr h4 h h1
  have ho : ∀ q ∈ P, StOk N q.2 ∧ q.2.length ≤ 1000 ∧ q.1.length ≤ n := by
    intro q hq
    obtain ⟨w1, w2, w3⟩ := hP q hq
    obtain ⟨a1, a2⟩ := actA_ok hb hr q.1 s h
    rw [w3]
    exact ⟨a1, by omega, w2⟩
  have pr := ppairs_right_eq ta hb hN hr (by omega) h hl (n := n) (by omega) hP h0 hPl
  have sh := ppairs_shut_eq ta hb (by omega) hr (n := n) (by omega) ho hPl hc
  have a0 : ∀ (x y : MV), atI [x, y] 0 = some x := fun x y => by rw [atI_ge (by decide)]; rfl
  have a1 : ∀ (x y : MV), atI [x, y] 1 = some y := fun x y => by rw [atI_ge (by decide)]; rfl
  have e1 : fEq (.str "none") (.str "least") = some (.bl false) := rfl
  have e2 : fNe (.str "none") (.str "none") = some (.bl false) := rfl
  have ba := bAny_map (fun q : List Nat × StA => doesA q.2 wl) P
  have lc := mLcO_itf (it := mItV (mOp fIx (mVar 4) (mC (.int 1)))) (g := .tp [6, 7]) (t := mYes) (e := mFz (mCall0 f_pdoes_all (mCons (mVar 7) (mCons (mVar 2) (mNil))))) (vs := [6, 7]) (l := P) (ρ := [some (.tup (tabsOf tb nt)), some (.tup (rs.map enR)), some (.tup (casesM s wl)), some (.int n), some (.tup [.str "none", .tup (P.map enPr)]), some (enS s), none, none]) (ρ1 := [some (.tup (tabsOf tb nt)), some (.tup (rs.map enR)), some (.tup (casesM s wl)), some (.int n), some (.tup [.str "none", .tup (P.map enPr)]), some (enS s), none, none])
    enPr (fun q => .bl (doesA q.2 wl)) (fun _ => true) (by
      generalize P.map enPr = PM at *
      simp [mItV, a1]) rfl (fun q hq => by
      obtain ⟨o1, o2, _⟩ := ho q hq
      have pd := pdoes_all_eq hN1 o1 o2 hs
      refine ⟨[some (.tup (tabsOf tb nt)), some (.tup (rs.map enR)), some (.tup (casesM s wl)), some (.int n), some (.tup [.str "none", .tup (P.map enPr)]), some (enS s), some (enW q.1), some (enS q.2)], rfl, rfl, fun _ => ?_, rfl, rfl⟩
      have tA : ∃ X, enS q.2 = .tup X := ⟨_, rfl⟩
      generalize P.map enPr = PM at *
      generalize casesM s wl = C at *
      generalize tabsOf tb nt = T at *
      generalize rs.map enR = R at *
      generalize enS s = S at *
      show mFz (mCall0 f_pdoes_all (mCons (mVar 7) (mCons (mVar 2) (mNil)))) [some (.tup T), some (.tup R), some (.tup C), some (.int n), some (.tup [.str "none", .tup PM]), some S, some (enW q.1), some (enS q.2)] = _
      generalize enS q.2 = A at *
      obtain ⟨X, rfl⟩ := tA
      simp [pd]) (by rw [sizeLine_eq]; omega)
  rw [List.filter_eq_self.mpr fun _ _ => rfl] at lc
  refine mFn_ok ?_
  have tS : ∃ X, enS s = .tup X := ⟨_, rfl⟩
  generalize (P.map fun q : List Nat × StA => MV.bl (doesA q.2 wl)) = LB at *
  generalize P.map enPr = PM at *
  generalize casesM s wl = C at *
  generalize tabsOf tb nt = T at *
  generalize rs.map enR = R at *
  generalize enS s = S at *
  obtain ⟨X, rfl⟩ := tS
  cases hd : P.any fun q => doesA q.2 wl with
  | true =>
    rw [hd] at ba
    simp [m_pleast_holds, ps, hh, bIsi, MV.kd, kdOf, Kd.isa, szOk_small, a0, a1, e1, e2, pr, lc, ba]
  | false =>
    rw [hd] at ba
    simp [m_pleast_holds, ps, hh, bIsi, MV.kd, kdOf, Kd.isa, szOk_small, a0, a1, e1, e2, pr, lc, ba, sh]
def extA (m : Nat) (l : List (List Nat)) : List (List Nat) := l.flatMap fun w => (List.range m).map fun k => w ++ [k]
def layW (m : Nat) : Nat → List (List Nat)
  | 0 => [[]]
  | n + 1 => extA m (layW m n)
def allW (m : Nat) : Nat → List (List Nat)
  | 0 => [[]]
  | n + 1 => allW m n ++ layW m (n + 1)
theorem mem_layW {m : Nat} : ∀ (n : Nat) (w : List Nat), w ∈ layW m n ↔ w.length = n ∧ ∀ d ∈ w, d < m
  | 0, w => by
    show w ∈ [[]] ↔ _
    rw [List.mem_singleton]
    constructor
    · rintro rfl; exact ⟨rfl, fun d hd => nomatch hd⟩
    · intro h; exact List.length_eq_zero_iff.mp h.1
  | n + 1, w => by
    show w ∈ extA m (layW m n) ↔ _
    unfold extA
    rw [List.mem_flatMap]
    constructor
    · rintro ⟨u, hu, hw⟩
      obtain ⟨k, hk, rfl⟩ := List.mem_map.mp hw
      obtain ⟨h1, h2⟩ := (mem_layW n u).mp hu
      refine ⟨by simp [h1], fun d hd => ?_⟩
      rcases List.mem_append.mp hd with hd | hd
      · exact h2 d hd
      · rw [List.mem_singleton] at hd
        subst hd
        exact List.mem_range.mp hk
    · rintro ⟨h1, h2⟩
      rcases List.eq_nil_or_concat w with rfl | ⟨u, k, e⟩
      · simp at h1
      · have e : w = u ++ [k] := by simpa using e
        subst e
        refine ⟨u, (mem_layW n u).mpr ⟨by simpa using h1, fun d hd => h2 d (List.mem_append_left _ hd)⟩, List.mem_map.mpr ⟨k, List.mem_range.mpr (h2 k (List.mem_append_right _ (List.mem_singleton.mpr rfl))), rfl⟩⟩
theorem mem_allW {m : Nat} : ∀ (n : Nat) (w : List Nat), w ∈ allW m n ↔ w.length ≤ n ∧ ∀ d ∈ w, d < m
  | 0, w => by
    have := mem_layW (m := m) 0 w
    show w ∈ [[]] ↔ _
    rw [show w ∈ [[]] ↔ w ∈ layW m 0 from Iff.rfl, this]
    simp
  | n + 1, w => by
    show w ∈ allW m n ++ layW m (n + 1) ↔ _
    rw [List.mem_append, mem_allW n w, mem_layW (n + 1) w]
    constructor
    · rintro (⟨a, b⟩ | ⟨a, b⟩)
      · exact ⟨by omega, b⟩
      · exact ⟨by omega, b⟩
    · rintro ⟨a, b⟩
      by_cases h : w.length ≤ n
      · exact .inl ⟨h, b⟩
      · exact .inr ⟨by omega, b⟩
theorem layW_up {m : Nat} : ∀ n : Nat, (layW m n).Pairwise llt
  | 0 => List.pairwise_singleton _ _
  | n + 1 => by
    show (extA m (layW m n)).Pairwise llt
    unfold extA
    rw [List.pairwise_flatMap]
    refine ⟨fun u _ => ?_, ?_⟩
    · rw [List.pairwise_map]
      refine List.pairwise_lt_range.imp fun {a b} h => ?_
      exact llt_snoc a b rfl (.inr ⟨rfl, h⟩)
    · refine (layW_up n).imp_of_mem fun {u v} hu hv h => ?_
      intro x hx y hy
      obtain ⟨a, _, rfl⟩ := List.mem_map.mp hx
      obtain ⟨b, _, rfl⟩ := List.mem_map.mp hy
      exact llt_snoc a b (by rw [((mem_layW n u).mp hu).1, ((mem_layW n v).mp hv).1]) (.inl h)
theorem allW_up {m : Nat} : ∀ n : Nat, (allW m n).Pairwise slt
  | 0 => List.pairwise_singleton _ _
  | n + 1 => by
    show (allW m n ++ layW m (n + 1)).Pairwise slt
    refine List.pairwise_append.mpr ⟨allW_up n, (layW_up (n + 1)).imp_of_mem fun {u v} hu hv h => .inr ⟨by rw [((mem_layW (n + 1) u).mp hu).1, ((mem_layW (n + 1) v).mp hv).1], h⟩, fun u hu v hv => .inl ?_⟩
    have h1 := ((mem_allW n u).mp hu).1
    have h2 := ((mem_layW (n + 1) v).mp hv).1
    omega
theorem allW_nil (m : Nat) : ∀ n : Nat, ∃ W, allW m n = [] :: W
  | 0 => ⟨[], rfl⟩
  | n + 1 => by
    obtain ⟨W, h⟩ := allW_nil m n
    exact ⟨W ++ layW m (n + 1), by show allW m n ++ _ = _; rw [h]; rfl⟩
theorem allW_len {m n : Nat} (hm : m ≤ 3) (hn : n ≤ 3) : (allW m n).length ≤ 40 := by
  have e : ∀ m < 4, ∀ n < 4, (allW m n).length ≤ 40 := by decide
  exact e m (by omega) n (by omega)
theorem lallW_eq {m n : Nat} (hm : m ≤ 3) (hn : n ≤ 3) : f_lall_words [.int m, .int n] = .ok (.lst ((allW m n).map enW), []) := by
  have inner : ∀ (l F : List (List Nat)) (x0 x1 x2 x3 x4 x6 : Option MV), x0 = some (.int m) → (∀ w ∈ l, w.length ≤ 100) → F.length + l.length * m ≤ 1000 → ∃ y6, mLoop (gSet 6) b_lall_words_0 (l.map enW) [x0, x1, x2, x3, x4, some (.own (F.map enW)), x6, none] = .ok (.nx, [x0, x1, x2, x3, x4, some (.own ((F ++ extA m l).map enW)), y6, none]) := by
    intro l
    induction l with
    | nil => intro F x0 x1 x2 x3 x4 x6 _ _ _; exact ⟨x6, by rw [show extA m [] = [] from rfl, List.append_nil]; rfl⟩
    | cons w l ih =>
      intro F x0 x1 x2 x3 x4 x6 h0 hw hl
      rw [List.length_cons, Nat.add_mul, Nat.one_mul] at hl
      obtain ⟨y6, e⟩ := ih (F ++ (List.range m).map fun k => w ++ [k]) x0 x1 x2 x3 x4 (some (enW w)) h0 (fun z hz => hw z (List.mem_cons_of_mem _ hz)) (by simp; omega)
      refine ⟨y6, ?_⟩
      have wl := hw w (List.mem_cons_self ..)
      have im : inR (m : Int) = true := inR_of (by omega) (by omega)
      have lc := mLcO_nm (it := mR1 (mCons (mVar 0) (mNil))) (e := mOp fAdd (mVar 6) (mTup (mCons (mVar 7) (mNil)))) (v := 7) (xs := rngM 0 1 m) (fun z => match z with | .int i => enW (w ++ [i.toNat]) | _ => .non)
        (ρ := [x0, x1, x2, x3, x4, some (.own (F.map enW)), some (enW w), none]) (by subst h0; simp [im]) rfl (by
          intro z hz
          obtain ⟨i, hi, rfl⟩ := List.mem_map.mp hz
          have fa := fAdd_w (w := w) (k := i) (by omega)
          have e0 : (0 : Int) + (i : Int) * 1 = i := by omega
          rw [e0]
          show _ = Res.ok (enW (w ++ [(i : Int).toNat]), _)
          rw [Int.toNat_natCast]
          have tW : ∃ X, enW w = .tup X := ⟨_, rfl⟩
          have tW2 : ∃ X, enW (w ++ [i]) = .tup X := ⟨_, rfl⟩
          generalize enW (w ++ [i]) = W2 at *
          generalize enW w = W at *
          obtain ⟨X, rfl⟩ := tW
          simp [fa, szOk_small]) (by rw [sizeLine_eq, rngM_len]; omega)
      have e8 : ((rngM 0 1 m).map fun z => match z with | .int i => enW (w ++ [i.toNat]) | _ => .non) = ((List.range m).map fun k => w ++ [k]).map enW := by
        unfold rngM
        rw [List.map_map, List.map_map]
        apply List.map_congr_left
        intro i _
        show enW _ = enW _
        simp
      rw [e8] at lc
      have ln : (((List.range m).map fun k => w ++ [k]).map enW).length = m := by simp
      have lF : (F.map enW).length = F.length := List.length_map ..
      have bo : b_lall_words_0 [x0, x1, x2, x3, x4, some (.own (F.map enW)), some (enW w), none] = .ok (.nx, [x0, x1, x2, x3, x4, some (.own ((F ++ (List.range m).map fun k => w ++ [k]).map enW)), some (enW w), none]) := by
        clear e ih
        rw [List.map_append]
        generalize ((List.range m).map fun k => w ++ [k]).map enW = EX at *
        generalize F.map enW = FF at *
        generalize enW w = W at *
        have z : szOk (FF.length + EX.length) = true := szOk_small (by omega)
        have z2 : FF.length + EX.length ≤ sizeLine := by rw [sizeLine_eq]; omega
        simp [b_lall_words_0, lc, lmExtend, z, z2]
      rw [List.map_cons, loop_c_nx rfl bo]
      rw [List.append_assoc] at e
      exact e
  have outer : ∀ (k j : Nat) (i : Int) (x4 x5 x6 : Option MV), j + k ≤ n → ∃ y4 y5 y6, mLoop (gSet 4) b_lall_words_1 (rngM i 1 k) [some (.int m), some (.int n), some (.lst ((allW m j).map enW)), some (.lst ((layW m j).map enW)), x4, x5, x6, none] = .ok (.nx, [some (.int m), some (.int n), some (.lst ((allW m (j + k)).map enW)), some (.lst ((layW m (j + k)).map enW)), y4, y5, y6, none]) := by
    intro k
    induction k with
    | zero => intro j i x4 x5 x6 _; exact ⟨x4, x5, x6, rfl⟩
    | succ k ih =>
      intro j i x4 x5 x6 hj
      have e0 : rngM i 1 (k + 1) = .int i :: rngM (i + 1) 1 k := rng_one12 i k
      have lay40 : ∀ a < 4, ∀ b < 4, (layW a b).length ≤ 40 := by decide
      have l0 := lay40 m (by omega) j (by omega)
      have l1 := allW_len (m := m) (n := j) hm (by omega)
      have l2 := lay40 m (by omega) (j + 1) (by omega)
      obtain ⟨z6, lp⟩ := inner (layW m j) [] (some (.int m)) (some (.int n)) (some (.lst ((allW m j).map enW))) (some (.lst ((layW m j).map enW))) (some (.int i)) x6 rfl (fun w hw => by have := ((mem_layW j w).mp hw).1; omega) (by
        have : (layW m j).length * m ≤ 40 * 3 := Nat.mul_le_mul l0 hm
        simp
        omega)
      rw [List.nil_append, List.map_nil, show extA m (layW m j) = layW m (j + 1) from rfl] at lp
      obtain ⟨y4, y5, y6, e⟩ := ih (j + 1) (i + 1) (some (.int i)) (some (.lst ((layW m (j + 1)).map enW))) z6 (by omega)
      refine ⟨y4, y5, y6, ?_⟩
      have la : ((allW m j).map enW).length = (allW m j).length := List.length_map ..
      have lb : ((layW m (j + 1)).map enW).length = (layW m (j + 1)).length := List.length_map ..
      have ea : (allW m (j + 1)).map enW = (allW m j).map enW ++ (layW m (j + 1)).map enW := by show (allW m j ++ layW m (j + 1)).map enW = _; rw [List.map_append]
      have bo : b_lall_words_1 [some (.int m), some (.int n), some (.lst ((allW m j).map enW)), some (.lst ((layW m j).map enW)), some (.int i), x5, x6, none] = .ok (.nx, [some (.int m), some (.int n), some (.lst ((allW m (j + 1)).map enW)), some (.lst ((layW m (j + 1)).map enW)), some (.int i), some (.lst ((layW m (j + 1)).map enW)), z6, none]) := by
        clear e ih
        rw [ea]
        generalize (layW m (j + 1)).map enW = L1 at *
        generalize (layW m j).map enW = L0 at *
        generalize (allW m j).map enW = A0 at *
        have z : szOk (A0.length + L1.length) = true := szOk_small (by omega)
        simp [b_lall_words_1, lp, z, szOk_small]
      rw [e0, loop_c_nx rfl bo]
      rw [show j + (k + 1) = j + 1 + k by omega]
      exact e
  obtain ⟨y4, y5, y6, e⟩ := outer n 0 0 none none none (by omega)
  rw [Nat.zero_add] at e
  have inn : inR (n : Int) = true := inR_of (by omega) (by omega)
  refine mFn_ok ⟨[some (.int m), some (.int n), some (.lst ((allW m n).map enW)), some (.lst ((layW m n).map enW)), y4, y5, y6, none], ?_⟩
  have e : mLoop (gSet 4) b_lall_words_1 (rngM 0 1 n) [some (.int m), some (.int n), some (.lst [.tup []]), some (.lst [.tup []]), none, none, none, none] = _ := e
  generalize (layW m n).map enW = B at *
  generalize (allW m n).map enW = A at *
  show m_lall_words [some (.int m), some (.int n), none, none, none, none, none, none] = _
  simp [m_lall_words, inn, e, szOk_small]
theorem nkI_LS (a : Nat) (s : StA) : nkI (.tup [.int a, enS s]) = some (.tup [.num a, nkS s]) := by
  unfold nkI
  rw [nkIs, nkIs, nkIs, nkI_S]
  have : nkI (.int a) = some (.num a) := by unfold nkI; rfl
  rw [this]
  rfl
theorem nkK_LS (a : Nat) (s : StA) : nkK (.tup [.int a, enS s]) = some (.tup [.num a, nkS s]) := by
  show (match nkI (.tup [.int a, enS s]) with | some k => if k.depth ≤ 8 then some k else none | none => none) = _
  rw [nkI_LS]
  have d : (NestedKey.tup [.num a, nkS s]).depth ≤ 8 := by
    show max 0 (max (NestedKey.depthAll (s.map fun p => .tup [.tup (nkN p.1), .num p.2]) + 1) 0) + 1 ≤ 8
    have := dep_P s
    omega
  show (if (NestedKey.tup [.num a, nkS s]).depth ≤ 8 then some _ else none) = _
  rw [if_pos d]
theorem kLS_inj {a b : Nat} {s t : StA} (h : NestedKey.tup [.num a, nkS s] = .tup [.num b, nkS t]) : a = b ∧ s = t := by
  injection h with h
  injection h with h1 h2
  injection h1 with h1
  injection h2 with h2 _
  exact ⟨Int.ofNat.inj h1, nkS_inj h2⟩
def grpW (P : List (List Nat × StA)) (a : Nat) (t : StA) : List (List Nat) := (P.filter fun q => decide (q.1.length = a ∧ q.2 = t)).map (·.1)
def GrK (ks xs : List MV) (f : Nat → StA → List (List Nat)) : Prop := ks.length = xs.length ∧ ∀ (a : Nat) (t : StA), ndAt ks xs (.tup [.num a, nkS t]) = if f a t = [] then none else some (.lst ((f a t).map enW))
theorem one_fill {T : List MV} (x1 x3 x6 : Option MV) : ∀ (l pre : List (List Nat × StA)) (ks xs : List MV) (x4 x5 : Option MV), GrK ks xs (grpW pre) → ks.length + l.length ≤ 1000 → pre.length + l.length ≤ 1000 → (∀ q ∈ l, q.1.length ≤ 1000) →
    ∃ ks' xs' y4 y5, GrK ks' xs' (grpW (pre ++ l)) ∧ mLoop (gTp 2 (gsCons (gSet 4) (gsCons (gSet 5) gsNil))) b_lone_each_0 (l.map enPr) [some (.lst T), x1, some (.dot ks xs), x3, x4, x5, x6] = .ok (.nx, [some (.lst T), x1, some (.dot ks' xs'), x3, y4, y5, x6])
  | [], pre, ks, xs, x4, x5, h, _, _, _ => ⟨ks, xs, x4, x5, by rw [List.append_nil]; exact h, rfl⟩
  | q :: l, pre, ks, xs, x4, x5, h, hl, hp, hw => by
    rw [List.length_cons] at hl hp
    have hq := hw q (List.mem_cons_self ..)
    have gl : (grpW pre q.1.length q.2).length ≤ 1000 := by
      unfold grpW
      rw [List.length_map]
      have := List.length_filter_le (fun q' : List Nat × StA => decide (q'.1.length = q.1.length ∧ q'.2 = q.2)) pre
      omega
    have ge : grpW (pre ++ [q]) q.1.length q.2 = grpW pre q.1.length q.2 ++ [q.1] := by
      unfold grpW
      rw [List.filter_append, List.map_append]
      simp
    have nkI' := nkI_LS q.1.length q.2
    have h2 : GrK (ndPut ks xs (.tup [.int q.1.length, enS q.2]) (.tup [.num q.1.length, nkS q.2]) (.lst ((grpW (pre ++ [q]) q.1.length q.2).map enW))).1 (ndPut ks xs (.tup [.int q.1.length, enS q.2]) (.tup [.num q.1.length, nkS q.2]) (.lst ((grpW (pre ++ [q]) q.1.length q.2).map enW))).2 (grpW (pre ++ [q])) := by
      refine ⟨(ndPut_len h.1 _ _ _).1, fun a t => ?_⟩
      rw [ndAt_put h.1 nkI', h.2 a t]
      by_cases e : a = q.1.length ∧ t = q.2
      · obtain ⟨rfl, rfl⟩ := e
        rw [if_pos rfl, if_neg (by rw [ge]; simp)]
      · rw [if_neg (fun z => e (kLS_inj z))]
        have : grpW (pre ++ [q]) a t = grpW pre a t := by
          unfold grpW
          rw [List.filter_append, List.map_append]
          have : ¬ (q.1.length = a ∧ q.2 = t) := fun z => e ⟨z.1.symm, z.2.symm⟩
          simp [this]
        rw [this]
    have l2 := (ndPut_len h.1 (.tup [.int q.1.length, enS q.2]) (.tup [.num q.1.length, nkS q.2]) (.lst ((grpW (pre ++ [q]) q.1.length q.2).map enW))).2
    obtain ⟨ks', xs', y4, y5, g, e⟩ := one_fill x1 x3 x6 l (pre ++ [q]) _ _ (some (enW q.1)) (some (enS q.2)) h2 (by omega) (by simp; omega) fun z hz => hw z (List.mem_cons_of_mem _ hz)
    refine ⟨ks', xs', y4, y5, by rw [List.append_assoc] at g; exact g, ?_⟩
    have hg : gTp 2 (gsCons (gSet 4) (gsCons (gSet 5) gsNil)) (enPr q) [some (.lst T), x1, some (.dot ks xs), x3, x4, x5, x6] = some [some (.lst T), x1, some (.dot ks xs), x3, some (enW q.1), some (enS q.2), x6] := rfl
    have lW : (encC q.1).length = q.1.length := by unfold encC; exact List.length_map ..
    have zW : szOk q.1.length = true := szOk_small (by omega)
    have nk := nkK_LS q.1.length q.2
    have lk : ks.length ≤ 10000 := by omega
    have ga : (ndAt ks xs (.tup [.num q.1.length, nkS q.2])).getD (.lst []) = .lst ((grpW pre q.1.length q.2).map enW) := by
      rw [h.2]
      by_cases e : grpW pre q.1.length q.2 = []
      · rw [if_pos e, e]; rfl
      · rw [if_neg e]; rfl
    have lg : ((grpW pre q.1.length q.2).map enW).length = (grpW pre q.1.length q.2).length := List.length_map ..
    have zg : szOk ((grpW pre q.1.length q.2).length + 1) = true := szOk_small (by omega)
    have bo : b_lone_each_0 [some (.lst T), x1, some (.dot ks xs), x3, some (enW q.1), some (enS q.2), x6] = .ok (.nx, [some (.lst T), x1, some (.dot (ndPut ks xs (.tup [.int q.1.length, enS q.2]) (.tup [.num q.1.length, nkS q.2]) (.lst ((grpW (pre ++ [q]) q.1.length q.2).map enW))).1 (ndPut ks xs (.tup [.int q.1.length, enS q.2]) (.tup [.num q.1.length, nkS q.2]) (.lst ((grpW (pre ++ [q]) q.1.length q.2).map enW))).2), x3, some (enW q.1), some (enS q.2), x6]) := by
      rw [ge, List.map_append, List.map_singleton]
      clear e g h2 l2 ge
      have tS : ∃ X, enS q.2 = .tup X := ⟨_, rfl⟩
      have tW : enW q.1 = .tup (encC q.1) := rfl
      rw [tW]
      generalize (grpW pre q.1.length q.2).map enW = G at *
      generalize grpW pre q.1.length q.2 = G0 at *
      generalize nkS q.2 = NK at *
      generalize enS q.2 = S at *
      generalize encC q.1 = W at *
      obtain ⟨X, rfl⟩ := tS
      simp [b_lone_each_0, lW, zW, nk, ga, isDot, lk, lg, zg, szOk_small]
    rw [List.map_cons, loop_c_nx hg bo]
    exact e
def keepW (P : List (List Nat × StA)) (tu : Nat) (q : List Nat × StA) : Bool := decide ((grpW P q.1.length q.2)[tu % (grpW P q.1.length q.2).length]? = some q.1)
theorem grpW_mem {P : List (List Nat × StA)} {q : List Nat × StA} (h : q ∈ P) : q.1 ∈ grpW P q.1.length q.2 := by
  unfold grpW
  exact List.mem_map.mpr ⟨q, List.mem_filter.mpr ⟨h, by simp⟩, rfl⟩
theorem lone_eq {P : List (List Nat × StA)} (hP : P.length ≤ 1000) (hw : ∀ q ∈ P, q.1.length ≤ 1000) (tu : Nat) : f_lone_each [.lst (P.map enPr), .int tu] = .ok (.own ((P.filter (keepW P tu)).map enPr), []) := by
  have h0 : GrK [] [] (grpW []) := ⟨rfl, fun a t => rfl⟩
  obtain ⟨ks, xs, y4, y5, hG, e1⟩ := one_fill (T := P.map enPr) (some (.int tu)) none none P [] [] [] none none h0 (by simpa using hP) (by simpa using hP) hw
  rw [List.nil_append] at hG
  have key : ∀ (l F : List (List Nat × StA)) (x4 x5 x6 : Option MV), (∀ q ∈ l, q ∈ P) → F.length + l.length ≤ 1000 → ∃ z4 z5 z6, mLoop (gTp 2 (gsCons (gSet 4) (gsCons (gSet 5) gsNil))) b_lone_each_1 (l.map enPr) [some (.lst (P.map enPr)), some (.int tu), some (.dot ks xs), some (.own (F.map enPr)), x4, x5, x6] = .ok (.nx, [some (.lst (P.map enPr)), some (.int tu), some (.dot ks xs), some (.own ((F ++ l.filter (keepW P tu)).map enPr)), z4, z5, z6]) := by
    intro l
    induction l with
    | nil => intro F x4 x5 x6 _ _; exact ⟨x4, x5, x6, by rw [List.filter_nil, List.append_nil]; rfl⟩
    | cons q l ih =>
      intro F x4 x5 x6 hl hF
      rw [List.length_cons] at hF
      have hq := hl q (List.mem_cons_self ..)
      have gm := grpW_mem hq
      have hg : gTp 2 (gsCons (gSet 4) (gsCons (gSet 5) gsNil)) (enPr q) [some (.lst (P.map enPr)), some (.int tu), some (.dot ks xs), some (.own (F.map enPr)), x4, x5, x6] = some [some (.lst (P.map enPr)), some (.int tu), some (.dot ks xs), some (.own (F.map enPr)), some (enW q.1), some (enS q.2), x6] := rfl
      have lW : (encC q.1).length = q.1.length := by unfold encC; exact List.length_map ..
      have wq := hw q hq
      have zW : szOk q.1.length = true := szOk_small (by omega)
      have nk := nkK_LS q.1.length q.2
      have ga : ndAt ks xs (.tup [.num q.1.length, nkS q.2]) = some (.lst ((grpW P q.1.length q.2).map enW)) := by
        rw [hG.2, if_neg (fun z => by rw [z] at gm; exact nomatch gm)]
      obtain ⟨G, hGe⟩ : ∃ G, grpW P q.1.length q.2 = G := ⟨_, rfl⟩
      have keq : keepW P tu q = decide (G[tu % G.length]? = some q.1) := by unfold keepW; rw [hGe]
      rw [hGe] at ga gm
      have gpos : 0 < G.length := List.length_pos_of_mem gm
      have gle : G.length ≤ 1000 := by
        rw [← hGe]
        unfold grpW
        rw [List.length_map]
        have := List.length_filter_le (fun q' : List Nat × StA => decide (q'.1.length = q.1.length ∧ q'.2 = q.2)) P
        omega
      have lg : (G.map enW).length = G.length := List.length_map ..
      have zg : szOk G.length = true := szOk_small (by omega)
      have dG : divOk (G.length : Int) = true := divOk_small (by omega) (by omega)
      have nz : ¬ G = [] := by intro z; rw [z] at gpos; simp at gpos
      have fm : (tu : Int).fmod (G.length : Int) = ((tu % G.length : Nat) : Int) := nat_fmod tu G.length
      have im : tu % G.length < G.length := Nat.mod_lt _ gpos
      have at1 := at_map enW im
      have fq := fEq_W (G[tu % G.length]) q.1
      have gq : G[tu % G.length]? = some G[tu % G.length] := List.getElem?_eq_getElem im
      rw [gq] at keq
      have keq : keepW P tu q = decide (G[tu % G.length] = q.1) := by rw [keq]; simp
      have tW : enW q.1 = .tup (encC q.1) := rfl
      have tS : ∃ X, enS q.2 = .tup X := ⟨_, rfl⟩
      have tG : ∃ X, enW (G[tu % G.length]) = .tup X := ⟨_, rfl⟩
      have lF : (F.map enPr).length < sizeLine := by rw [List.length_map, sizeLine_eq]; omega
      have eq : enPr q = .tup [enW q.1, enS q.2] := rfl
      cases hk : keepW P tu q with
      | true =>
        obtain ⟨z4, z5, z6, e⟩ := ih (F ++ [q]) (some (enW q.1)) (some (enS q.2)) (some (.lst (G.map enW))) (fun z hz => hl z (List.mem_cons_of_mem _ hz)) (by simp; omega)
        refine ⟨z4, z5, z6, ?_⟩
        rw [← keq, hk] at fq
        have bo : b_lone_each_1 [some (.lst (P.map enPr)), some (.int tu), some (.dot ks xs), some (.own (F.map enPr)), some (enW q.1), some (enS q.2), x6] = .ok (.nx, [some (.lst (P.map enPr)), some (.int tu), some (.dot ks xs), some (.own ((F ++ [q]).map enPr)), some (enW q.1), some (enS q.2), some (.lst (G.map enW))]) := by
          rw [List.map_append, List.map_singleton, eq]
          clear e ih
          rw [tW] at fq ⊢
          generalize P.map enPr = PM at *
          generalize F.map enPr = FF at *
          generalize enW (G[tu % G.length]) = W1 at *
          generalize tu % G.length = tm at *
          generalize G.map enW = GM at *
          generalize nkS q.2 = NK at *
          generalize enS q.2 = S at *
          generalize encC q.1 = W at *
          obtain ⟨X, rfl⟩ := tS
          obtain ⟨X2, rfl⟩ := tG
          simp [b_lone_each_1, lW, zW, nk, ga, lg, zg, dG, nz, fm, at1, fq, lF, szOk_small, has]
        rw [List.map_cons, loop_c_nx hg bo]
        rw [List.filter_cons_of_pos hk, show F ++ q :: l.filter (keepW P tu) = F ++ [q] ++ l.filter (keepW P tu) by simp]
        exact e
      | false =>
        obtain ⟨z4, z5, z6, e⟩ := ih F (some (enW q.1)) (some (enS q.2)) (some (.lst (G.map enW))) (fun z hz => hl z (List.mem_cons_of_mem _ hz)) (by omega)
        refine ⟨z4, z5, z6, ?_⟩
        rw [← keq, hk] at fq
        have bo : b_lone_each_1 [some (.lst (P.map enPr)), some (.int tu), some (.dot ks xs), some (.own (F.map enPr)), some (enW q.1), some (enS q.2), x6] = .ok (.nx, [some (.lst (P.map enPr)), some (.int tu), some (.dot ks xs), some (.own (F.map enPr)), some (enW q.1), some (enS q.2), some (.lst (G.map enW))]) := by
          clear e ih
          rw [tW] at fq ⊢
          generalize P.map enPr = PM at *
          generalize F.map enPr = FF at *
          generalize enW (G[tu % G.length]) = W1 at *
          generalize tu % G.length = tm at *
          generalize G.map enW = GM at *
          generalize nkS q.2 = NK at *
          generalize enS q.2 = S at *
          generalize encC q.1 = W at *
          obtain ⟨X, rfl⟩ := tS
          obtain ⟨X2, rfl⟩ := tG
          simp [b_lone_each_1, lW, zW, nk, ga, lg, zg, dG, nz, fm, at1, fq, lF, szOk_small, has]
        rw [List.map_cons, loop_c_nx hg bo]
        rw [List.filter_cons_of_neg (by rw [hk]; decide)]
        exact e
  obtain ⟨z4, z5, z6, e2⟩ := key P [] y4 y5 none (fun _ h => h) (by simpa using hP)
  rw [List.nil_append, List.map_nil] at e2
  refine mFn_ok ⟨[some (.lst (P.map enPr)), some (.int tu), some (.dot ks xs), none, z4, z5, z6], ?_⟩
  generalize (P.filter (keepW P tu)).map enPr = R at *
  generalize P.map enPr = PM at *
  show m_lone_each [some (.lst PM), some (.int tu), none, none, none, none, none] = _
  simp [m_lone_each, e1, e2, szOk_small]
theorem lone_keeps {P : List (List Nat × StA)} {tu : Nat} {q : List Nat × StA} (h : q ∈ P) : ∃ q' ∈ P.filter (keepW P tu), q'.1.length = q.1.length ∧ q'.2 = q.2 := by
  have gm := grpW_mem h
  have gpos : 0 < (grpW P q.1.length q.2).length := List.length_pos_of_mem gm
  have im : tu % (grpW P q.1.length q.2).length < (grpW P q.1.length q.2).length := Nat.mod_lt _ gpos
  have hm := List.getElem_mem im
  obtain ⟨q', hq', e⟩ := List.mem_map.mp hm
  obtain ⟨h1, h2⟩ := List.mem_filter.mp hq'
  have h2 := of_decide_eq_true h2
  refine ⟨q', List.mem_filter.mpr ⟨h1, ?_⟩, h2⟩
  unfold keepW
  rw [h2.1, h2.2, List.getElem?_eq_getElem im, e]
  simp
theorem lone_first {P Q : List (List Nat × StA)} {st : StA} (tu : Nat) (h0 : P = ([], st) :: Q) (h1 : ∀ q ∈ Q, q.1 ≠ []) : ∃ Q', P.filter (keepW P tu) = ([], st) :: Q' := by
  have g : grpW P 0 st = [[]] := by
    unfold grpW
    rw [h0, List.filter_cons_of_pos (by simp)]
    have : Q.filter (fun q => decide (q.1.length = 0 ∧ q.2 = st)) = [] := by
      rw [List.filter_eq_nil_iff]
      intro q hq z
      have := of_decide_eq_true z
      exact h1 q hq (List.length_eq_zero_iff.mp this.1)
    rw [this]
    rfl
  refine ⟨Q.filter (keepW P tu), ?_⟩
  have k : keepW P tu ([], st) = true := by
    unfold keepW
    show decide ((grpW P 0 st)[tu % (grpW P 0 st).length]? = some []) = true
    rw [g]
    simp [Nat.mod_one]
  conv => lhs; rw [h0]
  rw [List.filter_cons_of_pos (by rw [← h0]; exact k), ← h0]
theorem slt_sle_not {a b : List Nat} (h1 : slt a b) (h2 : sle b a) : False := by
  rcases h2 with rfl | h2
  · exact slt_irr _ h1
  · exact slt_irr _ (slt_trans h1 h2)
theorem least_agree {tb : Nat → Nat → Nat} {rs : List Rw} {s : StA} {n : Nat} (wl : List Nat) (w : List Nat) :
    (match (prA (stsA tb rs n s)).find? fun q => doesA q.2 wl with | some q => decide (q.1 = w) | none => false) = decide ((((allW rs.length n).filter fun w => doesA (actA tb rs s w) wl).take 1) = [w]) := by
  obtain ⟨told, rise, len, all⟩ := bfs_all tb rs s n
  have ok : ∀ v, v ∈ allW rs.length n ↔ v.length ≤ n ∧ WordOk rs v := fun v => mem_allW n v
  have once := prA_once tb rs n s
  obtain ⟨D, hD⟩ : ∃ D, stsA tb rs n s = D := ⟨_, rfl⟩
  rw [once]
  rw [hD] at told rise len all ⊢
  obtain ⟨Wd, hWd⟩ : ∃ Wd, ((allW rs.length n).filter fun w => doesA (actA tb rs s w) wl) = Wd := ⟨_, rfl⟩
  have memW : ∀ v, v ∈ Wd ↔ (v.length ≤ n ∧ WordOk rs v) ∧ doesA (actA tb rs s v) wl = true := fun v => by rw [← hWd, List.mem_filter, ok]
  have up : Wd.Pairwise slt := by rw [← hWd]; exact (allW_up n).filter _
  rw [hWd]
  have fe : (D.map fun p => (p.2, p.1)).find? (fun q : List Nat × StA => doesA q.2 wl) = (D.find? fun p => doesA p.1 wl).map fun p => (p.2, p.1) := by
    rw [List.find?_map]
    rfl
  rw [fe]
  cases hf : D.find? fun p => doesA p.1 wl with
  | none =>
    have no : Wd = [] := by
      cases Wd with
      | nil => rfl
      | cons v V =>
        obtain ⟨⟨v1, v2⟩, v3⟩ := (memW v).mp (List.mem_cons_self ..)
        obtain ⟨z, z1, _⟩ := all v v2 v1
        have := List.find?_eq_none.mp hf _ (dFind_some z1)
        exact absurd v3 this
    rw [no]
    simp
  | some p =>
    have hp := List.find?_some hf
    have hm := List.mem_of_find?_eq_some hf
    obtain ⟨t1, t2⟩ := told p hm
    obtain ⟨l1, _⟩ := len p hm
    have pW : p.2 ∈ Wd := (memW _).mpr ⟨⟨l1, t2⟩, by rw [← t1]; exact hp⟩
    obtain ⟨pre, post, hsplit, hpre⟩ := List.find?_eq_some_iff_append.mp hf |>.2
    have least : ∀ v ∈ Wd, sle p.2 v := by
      intro v hv
      obtain ⟨⟨v1, v2⟩, v3⟩ := (memW v).mp hv
      obtain ⟨z, z1, z2⟩ := all v v2 v1
      have zm := dFind_some z1
      rw [hsplit] at zm
      rcases List.mem_append.mp zm with zm | zm
      · have := hpre _ zm
        have v3 : doesA (actA tb rs s v) wl = true := v3
        simp [v3] at this
      · rcases List.mem_cons.mp zm with e | zm
        · have : z = p.2 := by rw [← e]
          rw [← this]; exact z2
        · have := rise
          unfold Rise at this
          rw [hsplit] at this
          have := (List.pairwise_append.mp this).2.1
          have := (List.pairwise_cons.mp this).1 _ zm
          exact sle_trans (.inr this) z2
    show decide (p.2 = w) = _
    cases Wd with
    | nil => exact nomatch pW
    | cons h T =>
      have eh : h = p.2 := by
        rcases List.mem_cons.mp pW with e | e
        · exact e.symm
        · exact (slt_sle_not ((List.pairwise_cons.mp up).1 _ e) (least h (List.mem_cons_self ..))).elim
      rw [eh]
      simp
def prW (tb : Nat → Nat → Nat) (rs : List Rw) (s : StA) (w : List Nat) : List Nat × StA := (w, actA tb rs s w)
def allP (tb : Nat → Nat → Nat) (rs : List Rw) (s : StA) (n : Nat) : List (List Nat × StA) := (allW rs.length n).map (prW tb rs s)
theorem allP_ok {tb : Nat → Nat → Nat} {rs : List Rw} {s : StA} {n : Nat} : ∀ q ∈ allP tb rs s n, WordOk rs q.1 ∧ q.1.length ≤ n ∧ q.2 = actA tb rs s q.1 := by
  intro q hq
  obtain ⟨w, hw, rfl⟩ := List.mem_map.mp hq
  obtain ⟨h1, h2⟩ := (mem_allW n w).mp hw
  exact ⟨h2, h1, rfl⟩
theorem allP_step {tb : Nat → Nat → Nat} {rs : List Rw} {s : StA} {n : Nat} {q : List Nat × StA} (hq : q ∈ allP tb rs s n) (hl : q.1.length < n) {r : Rw} (hr : r ∈ rs) : ∃ q' ∈ allP tb rs s n, q'.2 = behA tb r q.2 ∧ q'.1.length = q.1.length + 1 := by
  obtain ⟨w1, w2, w3⟩ := allP_ok q hq
  obtain ⟨k, hk, e⟩ := List.getElem_of_mem hr
  refine ⟨prW tb rs s (q.1 ++ [k]), List.mem_map.mpr ⟨_, (mem_allW n _).mpr ⟨by simp; omega, fun d hd => ?_⟩, rfl⟩, ?_, by simp [prW]⟩
  · rcases List.mem_append.mp hd with hd | hd
    · exact w1 d hd
    · rw [List.mem_singleton] at hd
      subst hd
      exact hk
  · show actA tb rs s (q.1 ++ [k]) = _
    rw [actA_snoc tb rs s q.1 (r := rs[k]) (List.getElem?_eq_getElem hk), e, w3]
theorem cut_pre (w : List Nat) (j : Nat) : cutM (encC (w ++ [j])) none (some (-1)) = encC w := by
  have l : (encC (w ++ [j])).length = w.length + 1 := by unfold encC; simp
  have e : encC (w ++ [j]) = encC w ++ [.int j] := by unfold encC; rw [List.map_append]; rfl
  have l2 : (encC w).length = w.length := by unfold encC; exact List.length_map ..
  unfold cutM
  rw [l, e]
  have s0 : HT.sIx (w.length + 1) 0 none = 0 := rfl
  have s1 : HT.sIx (w.length + 1) (w.length + 1) (some (-1)) = w.length := by
    simp [HT.sIx]
    omega
  rw [s0, s1, List.drop_zero, Nat.sub_zero, ← l2, List.take_left]
theorem at_last (w : List Nat) (j : Nat) : atI (encC (w ++ [j])) (-1) = some (.int j) := by
  have e : encC (w ++ [j]) = encC w ++ [.int j] := by unfold encC; rw [List.map_append]; rfl
  rw [e]
  unfold atI ixN
  rw [if_neg (by decide), List.length_append, List.length_singleton, if_pos (by omega)]
  have z : ((-1 : Int) + (((encC w).length + 1 : Nat) : Int)).toNat = (encC w).length := by omega
  simp only [Option.bind_some, z]
  simp
theorem pairs70 {tb : Nat → Nat → Nat} {nt N : Nat} {tabs : List MV} (ht : TabsAre tb nt tabs) (hb : TabLt tb nt) (hN : N ≤ 256) {rs : List Rw} (hr : rs.all (okN N nt) = true) (h3 : rs.length ≤ 3) {s : StA} (h : StOk N s) (hl : s.length ≤ 1000) {n : Nat} (hn : n ≤ 3)
    (x0 x1 x4 x7 x8 x9 x10 x11 x12 x13 x14 x15 x16 x17 x20 x21 x22 x23 x24 x25 : Option MV) : ∀ (post pre : List (List Nat)) (x6 x18 : Option MV), pre ++ post = allW rs.length n → [] ∈ pre → pero x6 →
    ∃ y6 y18, pero y6 ∧ mLoop (gSet 6) b_law69_0 (post.map enW) [x0, x1, some (.tup tabs), some (.tup (rs.map enR)), x4, some (.own (pre.map fun w => enPr (prW tb rs s w))), x6, x7, x8, x9, x10, x11, x12, x13, x14, x15, x16, x17, x18, none, x20, x21, x22, x23, x24, x25, none] =
      .ok (.nx, [x0, x1, some (.tup tabs), some (.tup (rs.map enR)), x4, some (.own ((pre ++ post).map fun w => enPr (prW tb rs s w))), y6, x7, x8, x9, x10, x11, x12, x13, x14, x15, x16, x17, y18, none, x20, x21, x22, x23, x24, x25, none])
  | [], pre, x6, x18, _, _, h6 => ⟨x6, x18, h6, by rw [List.append_nil]; rfl⟩
  | w :: post, pre, x6, x18, hall, hnil, _ => by
    have len := allW_len (m := rs.length) (n := n) h3 hn
    have up := allW_up (m := rs.length) n
    rw [← hall] at len up
    obtain ⟨up1, up2, up3⟩ := List.pairwise_append.mp up
    rw [List.length_append, List.length_cons] at len
    have wm : w ∈ allW rs.length n := by rw [← hall]; exact List.mem_append_right _ (List.mem_cons_self ..)
    obtain ⟨wl, wo⟩ := (mem_allW n w).mp wm
    obtain ⟨u, j, rfl⟩ : ∃ u j, w = u ++ [j] := by
      rcases List.eq_nil_or_concat w with rfl | ⟨u, j, e⟩
      · exact absurd (up3 _ hnil _ (List.mem_cons_self ..)) (slt_irr _)
      · exact ⟨u, j, by simpa using e⟩
    have hj : j < rs.length := wo j (List.mem_append_right _ (List.mem_singleton.mpr rfl))
    have um : u ∈ allW rs.length n := (mem_allW n u).mpr ⟨by simp at wl; omega, fun d hd => wo d (List.mem_append_left _ hd)⟩
    have up4 : u ∈ pre := by
      rw [← hall] at um
      have sh : slt u (u ++ [j]) := .inl (by simp)
      rcases List.mem_append.mp um with z | z
      · exact z
      · rcases List.mem_cons.mp z with z | z
        · rw [← z] at sh; exact absurd sh (slt_irr _)
        · exact absurd (slt_trans sh ((List.pairwise_cons.mp up2).1 _ z)) (slt_irr _)
    have hu : WordOk rs u := fun d hd => wo d (List.mem_append_left _ hd)
    obtain ⟨ao, al⟩ := actA_ok hb hr u s h
    have rk : okN N nt rs[j] = true := List.all_eq_true.mp hr _ (List.getElem_mem hj)
    have lb := lbehind_eq ht hb hN rk ao (by omega)
    have ea : actA tb rs s (u ++ [j]) = behA tb rs[j] (actA tb rs s u) := actA_snoc tb rs s u (List.getElem?_eq_getElem hj)
    obtain ⟨y6, y18, h6, e⟩ := pairs70 ht hb hN hr h3 h hl hn x0 x1 x4 x7 x8 x9 x10 x11 x12 x13 x14 x15 x16 x17 x20 x21 x22 x23 x24 x25 post (pre ++ [u ++ [j]]) (some (enW (u ++ [j]))) (some (enS (actA tb rs s u))) (by rw [← hall]; simp) (List.mem_append_left _ hnil) (fun x h => by cases h; rfl)
    refine ⟨y6, y18, h6, ?_⟩
    have lc := mLcW_itf (i := 5) (g := .tp [26, 19]) (t := mTest (mOp fEq (mVar 26) (mSl (mVar 6) (mNo) (mPart (mUn fNeg (mC (.int 1))))))) (e := mVar 19) (vs := [26, 19]) (l := pre) (ρ := [x0, x1, some (.tup tabs), some (.tup (rs.map enR)), x4, some (.own (pre.map fun w => enPr (prW tb rs s w))), some (enW (u ++ [j])), x7, x8, x9, x10, x11, x12, x13, x14, x15, x16, x17, x18, none, x20, x21, x22, x23, x24, x25, none])
      (fun w => enPr (prW tb rs s w)) (fun w => enS (actA tb rs s w)) (fun w => decide (w = u)) rfl (by simp [perAt]) (fun v hv => by
        refine ⟨[x0, x1, some (.tup tabs), some (.tup (rs.map enR)), x4, none, some (enW (u ++ [j])), x7, x8, x9, x10, x11, x12, x13, x14, x15, x16, x17, x18, some (enS (actA tb rs s v)), x20, x21, x22, x23, x24, x25, some (enW v)], rfl, ?_, fun _ => ?_, rfl, rfl⟩
        · have cp := cut_pre u j
          have fw := fEq_W v u
          have tU : enW u = .tup (encC u) := rfl
          have tV : ∃ X, enW v = .tup X := ⟨_, rfl⟩
          have tW : enW (u ++ [j]) = .tup (encC (u ++ [j])) := rfl
          rw [tU] at fw
          rw [tW]
          generalize encC (u ++ [j]) = W at *
          generalize encC u = U at *
          generalize enW v = V at *
          generalize decide (v = u) = bb at *
          obtain ⟨X, rfl⟩ := tV
          simp [cp, fw]
        · have tS : ∃ X, enS (actA tb rs s v) = .tup X := ⟨_, rfl⟩
          generalize enS (actA tb rs s v) = S at *
          obtain ⟨X, rfl⟩ := tS
          simp) (by rw [sizeLine_eq]; omega)
    obtain ⟨Z, hZ⟩ : ∃ Z, pre.filter (fun w => decide (w = u)) = u :: Z := by
      have hm : u ∈ pre.filter (fun w => decide (w = u)) := List.mem_filter.mpr ⟨up4, by simp⟩
      cases hz : pre.filter (fun w => decide (w = u)) with
      | nil => rw [hz] at hm; exact nomatch hm
      | cons v Z =>
        have hv : v ∈ pre.filter (fun w => decide (w = u)) := by rw [hz]; exact List.mem_cons_self ..
        have := of_decide_eq_true (List.mem_filter.mp hv).2
        exact ⟨Z, by rw [this]⟩
    rw [hZ, List.map_cons] at lc
    have a0 : ∀ (x : MV) (l : List MV), atI (x :: l) 0 = some x := fun x l => by rw [atI_ge (by decide)]; rfl
    have al' := at_last u j
    have am := at_map enR hj
    have lp : (pre.map fun w => enPr (prW tb rs s w)).length < sizeLine := by rw [List.length_map, sizeLine_eq]; omega
    have eP : enPr (prW tb rs s (u ++ [j])) = .tup [enW (u ++ [j]), enS (behA tb rs[j] (actA tb rs s u))] := by show MV.tup [enW (u ++ [j]), enS (actA tb rs s (u ++ [j]))] = _; rw [ea]
    have bo : b_law69_0 [x0, x1, some (.tup tabs), some (.tup (rs.map enR)), x4, some (.own (pre.map fun w => enPr (prW tb rs s w))), some (enW (u ++ [j])), x7, x8, x9, x10, x11, x12, x13, x14, x15, x16, x17, x18, none, x20, x21, x22, x23, x24, x25, none] =
        .ok (.nx, [x0, x1, some (.tup tabs), some (.tup (rs.map enR)), x4, some (.own ((pre ++ [u ++ [j]]).map fun w => enPr (prW tb rs s w))), some (enW (u ++ [j])), x7, x8, x9, x10, x11, x12, x13, x14, x15, x16, x17, some (enS (actA tb rs s u)), none, x20, x21, x22, x23, x24, x25, none]) := by
      rw [List.map_append, List.map_singleton, eP]
      clear e hZ ea eP
      have tU : ∃ X, enS (actA tb rs s u) = .tup X := ⟨_, rfl⟩
      have tB : ∃ X, enS (behA tb rs[j] (actA tb rs s u)) = .tup X := ⟨_, rfl⟩
      have tR : ∃ X, enR rs[j] = .tup X := by cases rs[j] <;> exact ⟨_, rfl⟩
      have tW : enW (u ++ [j]) = .tup (encC (u ++ [j])) := rfl
      rw [tW] at lc ⊢
      generalize (Z.map fun w => enS (actA tb rs s w)) = ZM at *
      generalize (pre.map fun w => enPr (prW tb rs s w)) = PM at *
      generalize enS (behA tb rs[j] (actA tb rs s u)) = B at *
      generalize enS (actA tb rs s u) = A at *
      generalize enR rs[j] = R1 at *
      generalize rs.map enR = R at *
      generalize encC (u ++ [j]) = W at *
      obtain ⟨X, rfl⟩ := tU
      obtain ⟨X2, rfl⟩ := tB
      obtain ⟨X3, rfl⟩ := tR
      simp [b_law69_0, lc, a0, al', am, lb, lp, szOk_small]
    rw [List.map_cons, loop_c_nx rfl bo]
    rw [show pre ++ (u ++ [j]) :: post = pre ++ [u ++ [j]] ++ post by simp]
    exact e
theorem cutM_mid70 {xs : List MV} {a b : Int} (ha : 0 ≤ a) (hb : 0 ≤ b) (h : b ≤ xs.length) (hab : a ≤ b) : cutM xs (some a) (some b) = (xs.drop a.toNat).take (b.toNat - a.toNat) := by
  simp only [cutM, HT.sIx, show ¬ a < 0 by omega, show ¬ b < 0 by omega, if_false]
  rw [Nat.min_eq_left (by omega), Nat.min_eq_left (by omega)]
def t70a : MS := mSeq (mAsg (mBlt bTuple (mCons (mFz (mLcO (mZip (mCons (mVar 4) (mCons (mVar 7) (mNil)))) (.tn [24, 25] 23) (mYes) (mTup (mCons (mVar 24) (mCons (mVar 25) (mCons (mVar 23) (mNil))))) [24, 25, 23])) (mNil))) (gSet 8)) (mSeq (mSetO 9 (mLcO (mItV (mVar 5)) (.tp [6, 19]) (mTest (mFz (mCall0 f_lwanted (mCons (mVar 19) (mCons (mVar 7) (mNil)))))) (mVar 6) [6, 19])) (mSeq (mAsg (mVar 5) (gSet 10)) (mSeq (mIfS (mTest (mOp fEq (mOp fMod (mVar 17) (mC (.int 2))) (mC (.int 1)))) (mAsg (mFz (mCall f_lone_each (mCons (mVar 5) (mCons (mOp fDiv (mVar 17) (mC (.int 2))) (mNil))))) (gSet 10)) (mPass)) (mSeq (mAsg (mOp fAdd (mC (.int 1)) (mOp fMod (mVar 17) (mBlt bLen (mCons (mVar 10) (mNil))))) (gSet 11)) (mSeq (mAsg (mOp fAdd (mOp fAdd (mSl (mVar 10) (mNo) (mPart (mC (.int 1)))) (mRevA (mSl (mVar 10) (mPart (mVar 11)) (mNo)))) (mSl (mVar 10) (mPart (mC (.int 1))) (mPart (mVar 11)))) (gSet 12)) (mSeq (mIfS (mTest (mOp fNe (mFz (mCall f_pleast_holds (mCons (mVar 2) (mCons (mVar 3) (mCons (mVar 8) (mCons (mVar 14) (mCons (mTup (mCons (mC (.str "none")) (mCons (mBlt bTuple (mCons (mVar 12) (mNil))) (mNil)))) (mNil)))))))) (mOp fEq (mBlt bLen (mCons (mVar 9) (mNil))) (mC (.int 0))))) (mRet (mC (.bl false))) (mPass)) (mSeq (mFor (mItV (mSlV 5 (mNo) (mPart (mC (.int 12))))) (gTp 2 (gsCons (gSet 6) (gsCons (gSet 19) (gsNil)))) (b_law69_1)) (mRet (mC (.bl true))))))))))
def t70b : MS := mSeq (mAsg (mOp fAdd (mC (.int 1)) (mOp fMod (mVar 17) (mBlt bLen (mCons (mVar 10) (mNil))))) (gSet 11)) (mSeq (mAsg (mOp fAdd (mOp fAdd (mSl (mVar 10) (mNo) (mPart (mC (.int 1)))) (mRevA (mSl (mVar 10) (mPart (mVar 11)) (mNo)))) (mSl (mVar 10) (mPart (mC (.int 1))) (mPart (mVar 11)))) (gSet 12)) (mSeq (mIfS (mTest (mOp fNe (mFz (mCall f_pleast_holds (mCons (mVar 2) (mCons (mVar 3) (mCons (mVar 8) (mCons (mVar 14) (mCons (mTup (mCons (mC (.str "none")) (mCons (mBlt bTuple (mCons (mVar 12) (mNil))) (mNil)))) (mNil)))))))) (mOp fEq (mBlt bLen (mCons (mVar 9) (mNil))) (mC (.int 0))))) (mRet (mC (.bl false))) (mPass)) (mSeq (mFor (mItV (mSlV 5 (mNo) (mPart (mC (.int 12))))) (gTp 2 (gsCons (gSet 6) (gsCons (gSet 19) (gsNil)))) (b_law69_1)) (mRet (mC (.bl true))))))
theorem shelves70 (ns : List Int) (N n nt : Nat) (hn : nt ≤ 16) (x11 x15 x16 x17 : Option MV) : ∃ tb : Nat → Nat → Nat, (∀ k v, tb k v < 256) ∧ mLcO (mR1 (mCons (mVar 13) (mNil))) (.nm 22) (mYes) (mFz (mCall0 f_lsome_table (mCons (mFz (mCall0 f_lcell (mCons (mVar 0) (mCons (mOp fAdd (mC (.int 1)) (mVar 22)) (mNil))))) (mCons (mOp fAdd (mC (.int 47)) (mVar 22)) (mNil))))) [22] [some (.scr ns), some (.int N), none, none, none, none, none, none, none, none, none, x11, none, some (.int nt), some (.int n), x15, x16, x17, none, none, none, none, none, none, none, none, none] = .ok (.own (tabsOf tb nt), [some (.scr ns), some (.int N), none, none, none, none, none, none, none, none, none, x11, none, some (.int nt), some (.int n), x15, x16, x17, none, none, none, none, none, none, none, none, none]) := by
  have r1 : ∀ k : Nat, ∃ f : Nat → Nat, (∀ v, f v < 256) ∧ ∃ c : Int, f_lcell [.scr ns, .int (1 + (k : Int))] = .ok (.int c, []) ∧ f_lsome_table [.int c, .int (47 + (k : Int))] = .ok (.tup ((List.range 256).map fun v => .int (f v)), []) := by
    intro k
    obtain ⟨c, hc⟩ := lcell_ok ns (1 + k)
    obtain ⟨f, h1, h2⟩ := lsome_tableB c (47 + (k : Int))
    have e : ((1 + k : Nat) : Int) = 1 + (k : Int) := by omega
    rw [e] at hc
    exact ⟨f, h1, c, hc, h2⟩
  obtain ⟨tb, hF⟩ := Classical.axiomOfChoice r1
  have ir : inR (nt : Int) = true := inR_of (by omega) (by omega)
  refine ⟨tb, fun k => (hF k).1, ?_⟩
  have lc := mLcO_nm (it := mR1 (mCons (mVar 13) (mNil))) (e := mFz (mCall0 f_lsome_table (mCons (mFz (mCall0 f_lcell (mCons (mVar 0) (mCons (mOp fAdd (mC (.int 1)) (mVar 22)) (mNil))))) (mCons (mOp fAdd (mC (.int 47)) (mVar 22)) (mNil))))) (v := 22) (xs := rngM 0 1 nt) (fun z => match z with | .int i => .tup ((List.range 256).map fun v => .int (tb i.toNat v)) | _ => .non)
    (ρ := [some (.scr ns), some (.int N), none, none, none, none, none, none, none, none, none, x11, none, some (.int nt), some (.int n), x15, x16, x17, none, none, none, none, none, none, none, none, none]) (by simp [ir]) rfl (by
      intro z hz
      obtain ⟨i, hi, rfl⟩ := List.mem_map.mp hz
      obtain ⟨_, c, hc, h3⟩ := hF i
      have e0 : (0 : Int) + (i : Int) * 1 = i := by omega
      rw [e0]
      show _ = Res.ok (MV.tup ((List.range 256).map fun v => .int (tb (i : Int).toNat v)), _)
      rw [Int.toNat_natCast]
      generalize (List.range 256).map (fun v => MV.int (tb i v : Nat)) = L at *
      simp [hc, h3]) (by rw [sizeLine_eq, rngM_len]; omega)
  have e8 : ((rngM 0 1 nt).map fun z => match z with | .int i => MV.tup ((List.range 256).map fun v => .int (tb i.toNat v)) | _ => .non) = tabsOf tb nt := by
    unfold rngM tabsOf
    rw [List.map_map]
    apply List.map_congr_left
    intro i _
    show MV.tup _ = MV.tup _
    simp
  rw [e8] at lc
  exact lc
theorem end70 {tb : Nat → Nat → Nat} {nt N : Nat} (hb : TabLt tb nt) (h16 : nt ≤ 16) (hN1 : 1 ≤ N) (hN : N ≤ 20) {rs : List Rw} (hr : rs.all (okN N nt) = true) (h3 : rs.length ≤ 3) {s : StA} (h : StOk N s) (h1 : 1 ≤ s.length) (hl : s.length ≤ 20) {n : Nat} (hn : n ≤ 3) {wl : List Nat} (hs : s.length = wl.length)
    {St Q : List (List Nat × StA)} (sub : ∀ q ∈ St, q ∈ allP tb rs s n) (rep : ∀ q ∈ allP tb rs s n, ∃ q' ∈ St, q'.1.length = q.1.length ∧ q'.2 = q.2) (h0 : St = ([], s) :: Q) (hSl : St.length ≤ 1000) (tu : Nat)
    (x0 x1 x4 x6 x7 x11 x13 x15 x16 x18 : Option MV) :
    ∃ ρ, t70b [x0, x1, some (.tup (tabsOf tb nt)), some (.tup (rs.map enR)), x4, some (.lst ((allP tb rs s n).map enPr)), x6, x7, some (.tup (casesM s wl)), some (.own (((allW rs.length n).filter fun w => doesA (actA tb rs s w) wl).map enW)), some (.lst (St.map enPr)), x11, none, x13, some (.int n), x15, x16, some (.int tu), x18, none, none, none, none, none, none, none, none] = .ok (.rt (.bl true), ρ) := by
  obtain ⟨a, ha⟩ : ∃ a, 1 + tu % St.length = a := ⟨_, rfl⟩
  have sp : 0 < St.length := by rw [h0]; simp
  have a1 : 1 ≤ a ∧ a ≤ St.length := by
    have := Nat.mod_lt tu sp
    omega
  obtain ⟨TA, hTA⟩ : ∃ TA, St.take 1 ++ (St.drop a).reverse ++ (St.drop 1).take (a - 1) = TA := ⟨_, rfl⟩
  have memT : ∀ q, q ∈ TA ↔ q ∈ St := by
    intro q
    have e : St = St.take 1 ++ ((St.drop 1).take (a - 1) ++ St.drop a) := by
      have : St.drop a = (St.drop 1).drop (a - 1) := by rw [List.drop_drop, show 1 + (a - 1) = a by omega]
      rw [this, List.take_append_drop, List.take_append_drop]
    rw [← hTA]
    conv => rhs; rw [e]
    simp only [List.mem_append, List.mem_reverse]
    constructor
    · rintro ((x | x) | x)
      · exact .inl x
      · exact .inr (.inr x)
      · exact .inr (.inl x)
    · rintro (x | x | x)
      · exact .inl (.inl x)
      · exact .inr x
      · exact .inl (.inr x)
  have lenT : TA.length ≤ 1000 := by
    rw [← hTA]
    simp
    omega
  obtain ⟨Q', hT0⟩ : ∃ Q', TA = ([], s) :: Q' := by
    rw [← hTA, h0]
    exact ⟨_, rfl⟩
  have okT : ∀ q ∈ TA, WordOk rs q.1 ∧ q.1.length ≤ n ∧ q.2 = actA tb rs s q.1 := fun q hq => allP_ok q (sub q ((memT q).mp hq))
  have shut : ∀ q ∈ TA, q.1.length < n → ∀ r ∈ rs, ∃ q' ∈ TA, q'.2 = behA tb r q.2 ∧ q'.1.length ≤ q.1.length + 1 := by
    intro q hq hlt r hr'
    obtain ⟨p, p1, p2, p3⟩ := allP_step (sub q ((memT q).mp hq)) hlt hr'
    obtain ⟨q', k1, k2, k3⟩ := rep p p1
    exact ⟨q', (memT q').mpr k1, by rw [k3, p2], by omega⟩
  have pn := pholds_none hb h16 hN1 hN hr (by omega) h h1 hl (n := n) (by omega) hs okT hT0 lenT shut
  obtain ⟨Wd, hWd⟩ : ∃ Wd, ((allW rs.length n).filter fun w => doesA (actA tb rs s w) wl) = Wd := ⟨_, rfl⟩
  have any : (!TA.any fun q => doesA q.2 wl) = decide (Wd.length = 0) := by
    cases hz : TA.any fun q => doesA q.2 wl with
    | true =>
      obtain ⟨q, hq, hd⟩ := List.any_eq_true.mp hz
      obtain ⟨w1, w2, w3⟩ := okT q hq
      have : q.1 ∈ Wd := by
        rw [← hWd]
        exact List.mem_filter.mpr ⟨(mem_allW n _).mpr ⟨w2, w1⟩, by rw [← w3]; exact hd⟩
      have : 0 < Wd.length := List.length_pos_of_mem this
      rw [decide_eq_false (by omega)]
      rfl
    | false =>
      have : Wd = [] := by
        cases Wd with
        | nil => rfl
        | cons w W =>
          have hw : w ∈ (allW rs.length n).filter fun w => doesA (actA tb rs s w) wl := by rw [hWd]; exact List.mem_cons_self ..
          obtain ⟨m1, m2⟩ := List.mem_filter.mp hw
          have pm : prW tb rs s w ∈ allP tb rs s n := List.mem_map.mpr ⟨w, m1, rfl⟩
          obtain ⟨q', k1, _, k3⟩ := rep _ pm
          have := List.any_eq_false.mp hz q' ((memT q').mpr k1)
          rw [k3] at this
          exact absurd m2 this
      rw [this]
      rfl
  have lW := allW_len (m := rs.length) (n := n) h3 hn
  have lWd : Wd.length ≤ 40 := by rw [← hWd]; exact Nat.le_trans (List.length_filter_le ..) lW
  -- the loop over the first twelve
  have lst : ∀ w : List Nat, w ∈ allW rs.length n → f_pleast_holds [.tup (tabsOf tb nt), .tup (rs.map enR), .tup (casesM s wl), .int n, .tup [.str "least", enW w]] = .ok (.bl (decide (Wd.take 1 = [w])), []) := by
    intro w hw
    obtain ⟨m1, m2⟩ := (mem_allW n w).mp hw
    have := pholds_least hb h16 hN1 (by omega) hr (by omega) h h1 (by omega) (n := n) (by omega) hs m2 m1
    have la := least_agree (tb := tb) (rs := rs) (s := s) (n := n) wl w
    rw [hWd] at la
    exact this.trans (congrArg (fun b => Res.ok (MV.bl b, [])) la)
  have loop : ∀ (l : List (List Nat × StA)) (y6 y11 y12 y19 y20 : Option MV), (∀ q ∈ l, q.1 ∈ allW rs.length n) → ∃ z6 z19 z20, mLoop (gTp 2 (gsCons (gSet 6) (gsCons (gSet 19) gsNil))) b_law69_1 (l.map enPr) [x0, x1, some (.tup (tabsOf tb nt)), some (.tup (rs.map enR)), x4, some (.lst ((allP tb rs s n).map enPr)), y6, x7, some (.tup (casesM s wl)), some (.lst (Wd.map enW)), some (.lst (St.map enPr)), y11, y12, x13, some (.int n), x15, x16, some (.int tu), x18, y19, y20, none, none, none, none, none, none] =
      .ok (.nx, [x0, x1, some (.tup (tabsOf tb nt)), some (.tup (rs.map enR)), x4, some (.lst ((allP tb rs s n).map enPr)), z6, x7, some (.tup (casesM s wl)), some (.lst (Wd.map enW)), some (.lst (St.map enPr)), y11, y12, x13, some (.int n), x15, x16, some (.int tu), x18, z19, z20, none, none, none, none, none, none]) := by
    intro l
    induction l with
    | nil => intro y6 y11 y12 y19 y20 _; exact ⟨y6, y19, y20, rfl⟩
    | cons q l ih =>
      intro y6 y11 y12 y19 y20 hq
      have ph := lst q.1 (hq q (List.mem_cons_self ..))
      obtain ⟨z6, z19, z20, e⟩ := ih (some (enW q.1)) y11 y12 (some (enS q.2)) (some (.bl (decide (Wd.take 1 = [q.1])))) fun z hz => hq z (List.mem_cons_of_mem _ hz)
      refine ⟨z6, z19, z20, ?_⟩
      have hg : gTp 2 (gsCons (gSet 6) (gsCons (gSet 19) gsNil)) (enPr q) [x0, x1, some (.tup (tabsOf tb nt)), some (.tup (rs.map enR)), x4, some (.lst ((allP tb rs s n).map enPr)), y6, x7, some (.tup (casesM s wl)), some (.lst (Wd.map enW)), some (.lst (St.map enPr)), y11, y12, x13, some (.int n), x15, x16, some (.int tu), x18, y19, y20, none, none, none, none, none, none] = some [x0, x1, some (.tup (tabsOf tb nt)), some (.tup (rs.map enR)), x4, some (.lst ((allP tb rs s n).map enPr)), some (enW q.1), x7, some (.tup (casesM s wl)), some (.lst (Wd.map enW)), some (.lst (St.map enPr)), y11, y12, x13, some (.int n), x15, x16, some (.int tu), x18, some (enS q.2), y20, none, none, none, none, none, none] := rfl
      have ct : cutM (Wd.map enW) none (some 1) = (Wd.take 1).map enW := by rw [cutM_to (by decide), List.map_take]; rfl
      have fq := fEq_Ws (Wd.take 1) [q.1]
      have fq : fEq (.lst ((Wd.take 1).map enW)) (.lst [enW q.1]) = _ := fq
      have bo : b_law69_1 [x0, x1, some (.tup (tabsOf tb nt)), some (.tup (rs.map enR)), x4, some (.lst ((allP tb rs s n).map enPr)), some (enW q.1), x7, some (.tup (casesM s wl)), some (.lst (Wd.map enW)), some (.lst (St.map enPr)), y11, y12, x13, some (.int n), x15, x16, some (.int tu), x18, some (enS q.2), y20, none, none, none, none, none, none] = .ok (.nx, [x0, x1, some (.tup (tabsOf tb nt)), some (.tup (rs.map enR)), x4, some (.lst ((allP tb rs s n).map enPr)), some (enW q.1), x7, some (.tup (casesM s wl)), some (.lst (Wd.map enW)), some (.lst (St.map enPr)), y11, y12, x13, some (.int n), x15, x16, some (.int tu), x18, some (enS q.2), some (.bl (decide (Wd.take 1 = [q.1]))), none, none, none, none, none, none]) := by
        clear e ih lst pn
        have tW : ∃ X, enW q.1 = .tup X := ⟨_, rfl⟩
        generalize decide (Wd.take 1 = [q.1]) = bb at *
        generalize (Wd.take 1).map enW = W1 at *
        generalize Wd.map enW = WM at *
        generalize (allP tb rs s n).map enPr = PM at *
        generalize casesM s wl = C at *
        generalize tabsOf tb nt = T at *
        generalize rs.map enR = R at *
        generalize enW q.1 = W at *
        obtain ⟨X, rfl⟩ := tW
        cases bb <;> simp [b_law69_1, ph, bIsi, MV.kd, kdOf, Kd.isa, ct, fq, szOk_small]
      rw [List.map_cons, loop_c_nx hg bo]
      exact e
  have tk : ∀ q ∈ (allP tb rs s n).take 12, q.1 ∈ allW rs.length n := by
    intro q hq
    obtain ⟨w, hw, rfl⟩ := List.mem_map.mp (List.mem_of_mem_take hq)
    exact hw
  obtain ⟨z6, z19, z20, lp⟩ := loop ((allP tb rs s n).take 12) x6 (some (.int a)) (some (.lst (TA.map enPr))) none none tk
  refine ⟨[x0, x1, some (.tup (tabsOf tb nt)), some (.tup (rs.map enR)), x4, some (.lst ((allP tb rs s n).map enPr)), z6, x7, some (.tup (casesM s wl)), some (.lst (Wd.map enW)), some (.lst (St.map enPr)), some (.int a), some (.lst (TA.map enPr)), x13, some (.int n), x15, x16, some (.int tu), x18, z19, z20, none, none, none, none, none, none], ?_⟩
  have c12 : cutM ((allP tb rs s n).map enPr) none (some 12) = ((allP tb rs s n).take 12).map enPr := by rw [cutM_to (by decide), List.map_take]; rfl
  have lS : (St.map enPr).length = St.length := List.length_map ..
  have zS : szOk St.length = true := szOk_small (by omega)
  have dS : divOk (St.length : Int) = true := divOk_small (by omega) (by omega)
  have nz : ¬ St = [] := by rw [h0]; simp
  have fm : (tu : Int).fmod (St.length : Int) = ((tu % St.length : Nat) : Int) := nat_fmod tu St.length
  have e1 : (1 : Int) + ((tu % St.length : Nat) : Int) = (a : Int) := by rw [← ha]; omega
  have k1 : cutM (St.map enPr) none (some 1) = (St.take 1).map enPr := by rw [cutM_to (by decide), List.map_take]; rfl
  have k2 : cutM (St.map enPr) (some (a : Int)) none = (St.drop a).map enPr := by rw [cutM_from (by omega), List.map_drop, Int.toNat_natCast]
  have k3 : cutM (St.map enPr) (some 1) (some (a : Int)) = ((St.drop 1).take (a - 1)).map enPr := by
    rw [cutM_mid70 (by decide) (by omega) (by rw [lS]; omega) (by omega), List.map_take, List.map_drop, Int.toNat_natCast]
    rfl
  have kr : fRevA (.lst ((St.drop a).map enPr)) = some (.lst ((St.drop a).reverse.map enPr)) := by rw [List.map_reverse]; rfl
  have eT : TA.map enPr = (St.take 1).map enPr ++ (St.drop a).reverse.map enPr ++ ((St.drop 1).take (a - 1)).map enPr := by rw [← hTA, List.map_append, List.map_append]
  have f1 : fAdd (.lst ((St.take 1).map enPr)) (.lst ((St.drop a).reverse.map enPr)) = some (.lst ((St.take 1).map enPr ++ (St.drop a).reverse.map enPr)) := by
    have z : szOk (((St.take 1).map enPr).length + ((St.drop a).reverse.map enPr).length) = true := szOk_small (by simp; omega)
    generalize (St.take 1).map enPr = A1 at *
    generalize (St.drop a).reverse.map enPr = A2 at *
    simp [z]
  have f2 : fAdd (.lst ((St.take 1).map enPr ++ (St.drop a).reverse.map enPr)) (.lst (((St.drop 1).take (a - 1)).map enPr)) = some (.lst (TA.map enPr)) := by
    rw [eT]
    have z : szOk (((St.take 1).map enPr ++ (St.drop a).reverse.map enPr).length + (((St.drop 1).take (a - 1)).map enPr).length) = true := szOk_small (by simp; omega)
    generalize (St.take 1).map enPr ++ (St.drop a).reverse.map enPr = A1 at *
    generalize ((St.drop 1).take (a - 1)).map enPr = A2 at *
    simp [z]
  have bt : ∀ L : List MV, bTuple [.lst L] = some (.tup L) := fun _ => rfl
  have lD : (Wd.map enW).length = Wd.length := List.length_map ..
  have zD : szOk Wd.length = true := szOk_small (by omega)
  have d0 : fEq (.int (Wd.length : Nat)) (.int 0) = some (.bl (decide (Wd.length = 0))) := by
    simp [fEq, eqM, scalM, sameM]
  rw [any] at pn
  rw [hWd]
  unfold t70b
  clear ha
  generalize tu % St.length = tm at *
  clear loop lst shut okT memT any hWd hTA eT
  generalize hdd : decide (Wd.length = 0) = dd at *
  clear hdd
  generalize TA.map enPr = TM at *
  generalize (St.take 1).map enPr ++ (St.drop a).reverse.map enPr = A12 at *
  generalize (St.take 1).map enPr = A1 at *
  generalize (St.drop a).reverse.map enPr = A2 at *
  generalize (St.drop a).map enPr = A2' at *
  generalize ((St.drop 1).take (a - 1)).map enPr = A3 at *
  generalize St.map enPr = SM at *
  generalize ((allP tb rs s n).take 12).map enPr = P12 at *
  generalize (allP tb rs s n).map enPr = PM at *
  generalize Wd.map enW = WM at *
  generalize casesM s wl = C at *
  generalize tabsOf tb nt = T at *
  generalize rs.map enR = R at *
  have zit : zitM (.lst P12) = some P12 := rfl
  cases dd <;> simp [slV, lS, zS, dS, nz, fm, e1, k1, k2, k3, kr, f1, f2, bt, pn, lD, zD, d0, c12, lp, szOk_small]
theorem mid70 {tb : Nat → Nat → Nat} {nt N : Nat} (hb : TabLt tb nt) (h16 : nt ≤ 16) (hN1 : 1 ≤ N) (hN : N ≤ 20) {rs : List Rw} (hr : rs.all (okN N nt) = true) (h3 : rs.length ≤ 3) {s : StA} (h : StOk N s) (h1 : 1 ≤ s.length) (hl : s.length ≤ 20) {n : Nat} (hn : n ≤ 3) {wl : List Nat} (hs : s.length = wl.length) (tu : Nat)
    (x0 x1 x6 x11 x13 x15 x16 x18 : Option MV) (h6 : pero x6) :
    ∃ ρ, t70a [x0, x1, some (.tup (tabsOf tb nt)), some (.tup (rs.map enR)), some (enS s), some (.own ((allP tb rs s n).map enPr)), x6, some (.own (encC wl)), none, none, none, x11, none, x13, some (.int n), x15, x16, some (.int tu), x18, none, none, none, none, none, none, none, none] = .ok (.rt (.bl true), ρ) := by
  have lP : (allP tb rs s n).length ≤ 40 := by unfold allP; rw [List.length_map]; exact allW_len h3 hn
  have ok0 : ∀ q ∈ allP tb rs s n, StOk N q.2 ∧ q.2.length ≤ 1000 := by
    intro q hq
    obtain ⟨_, _, w3⟩ := allP_ok q hq
    obtain ⟨a1, a2⟩ := actA_ok hb hr q.1 s h
    rw [w3]
    exact ⟨a1, by omega⟩
  have bt : ∀ L : List MV, bTuple [.lst L] = some (.tup L) := fun _ => rfl
  have c1 : mLcO (mZip (mCons (mVar 4) (mCons (mVar 7) (mNil)))) (.tn [24, 25] 23) (mYes) (mTup (mCons (mVar 24) (mCons (mVar 25) (mCons (mVar 23) (mNil))))) [24, 25, 23] [x0, x1, some (.tup (tabsOf tb nt)), some (.tup (rs.map enR)), some (enS s), some (.own ((allP tb rs s n).map enPr)), x6, some (.own (encC wl)), none, none, none, x11, none, x13, some (.int n), x15, x16, some (.int tu), x18, none, none, none, none, none, none, none, none] = .ok (.own (casesM s wl), [x0, x1, some (.tup (tabsOf tb nt)), some (.tup (rs.map enR)), some (enS s), some (.own ((allP tb rs s n).map enPr)), x6, some (.lst (encC wl)), none, none, none, x11, none, x13, some (.int n), x15, x16, some (.int tu), x18, none, none, none, none, none, none, none, none]) := by
    have lc := mLcO_itf (it := mZip (mCons (mVar 4) (mCons (mVar 7) (mNil)))) (g := .tn [24, 25] 23) (t := mYes) (e := mTup (mCons (mVar 24) (mCons (mVar 25) (mCons (mVar 23) (mNil))))) (vs := [24, 25, 23]) (l := s.zip wl) (ρ := [x0, x1, some (.tup (tabsOf tb nt)), some (.tup (rs.map enR)), some (enS s), some (.own ((allP tb rs s n).map enPr)), x6, some (.own (encC wl)), none, none, none, x11, none, x13, some (.int n), x15, x16, some (.int tu), x18, none, none, none, none, none, none, none, none]) (ρ1 := [x0, x1, some (.tup (tabsOf tb nt)), some (.tup (rs.map enR)), some (enS s), some (.own ((allP tb rs s n).map enPr)), x6, some (.lst (encC wl)), none, none, none, x11, none, x13, some (.int n), x15, x16, some (.int tu), x18, none, none, none, none, none, none, none, none])
      (fun p => .tup [.tup [.tup (encC p.1.1), .int p.1.2], .int p.2]) (fun q => .tup [.tup (encC q.1.1), .int q.1.2, .int q.2]) (fun _ => true) (by
        have z := zipM_map (fun p : List Nat × Nat => MV.tup [.tup (encC p.1), .int p.2]) (fun d : Nat => MV.int d) s wl
        have z : zipM (s.map fun p : List Nat × Nat => MV.tup [.tup (encC p.1), .int p.2]) (encC wl) = _ := z
        unfold enS
        generalize (s.map fun p : List Nat × Nat => MV.tup [.tup (encC p.1), .int p.2]) = TT at *
        generalize encC wl = W at *
        generalize (allP tb rs s n).map enPr = PM at *
        simp [z]) rfl (fun q hq => by
        refine ⟨[x0, x1, some (.tup (tabsOf tb nt)), some (.tup (rs.map enR)), some (enS s), some (.own ((allP tb rs s n).map enPr)), x6, some (.lst (encC wl)), none, none, none, x11, none, x13, some (.int n), x15, x16, some (.int tu), x18, none, none, none, none, some (.int q.2), some (.tup (encC q.1.1)), some (.int q.1.2), none], rfl, rfl, fun _ => ?_, rfl, rfl⟩
        generalize encC q.1.1 = C at *
        simp [szOk_small]) (by rw [sizeLine_eq, List.length_zip]; omega)
    rw [List.filter_eq_self.mpr fun _ _ => rfl] at lc
    exact lc
  have c2 : mLcO (mItV (mVar 5)) (.tp [6, 19]) (mTest (mFz (mCall0 f_lwanted (mCons (mVar 19) (mCons (mVar 7) (mNil)))))) (mVar 6) [6, 19] [x0, x1, some (.tup (tabsOf tb nt)), some (.tup (rs.map enR)), some (enS s), some (.own ((allP tb rs s n).map enPr)), x6, some (.lst (encC wl)), some (.tup (casesM s wl)), none, none, x11, none, x13, some (.int n), x15, x16, some (.int tu), x18, none, none, none, none, none, none, none, none] = .ok (.own (((allW rs.length n).filter fun w => doesA (actA tb rs s w) wl).map enW), [x0, x1, some (.tup (tabsOf tb nt)), some (.tup (rs.map enR)), some (enS s), some (.lst ((allP tb rs s n).map enPr)), x6, some (.lst (encC wl)), some (.tup (casesM s wl)), none, none, x11, none, x13, some (.int n), x15, x16, some (.int tu), x18, none, none, none, none, none, none, none, none]) := by
    have lc := mLcO_itf (it := mItV (mVar 5)) (g := .tp [6, 19]) (t := mTest (mFz (mCall0 f_lwanted (mCons (mVar 19) (mCons (mVar 7) (mNil)))))) (e := mVar 6) (vs := [6, 19]) (l := allW rs.length n) (ρ := [x0, x1, some (.tup (tabsOf tb nt)), some (.tup (rs.map enR)), some (enS s), some (.own ((allP tb rs s n).map enPr)), x6, some (.lst (encC wl)), some (.tup (casesM s wl)), none, none, x11, none, x13, some (.int n), x15, x16, some (.int tu), x18, none, none, none, none, none, none, none, none]) (ρ1 := [x0, x1, some (.tup (tabsOf tb nt)), some (.tup (rs.map enR)), some (enS s), some (.lst ((allP tb rs s n).map enPr)), x6, some (.lst (encC wl)), some (.tup (casesM s wl)), none, none, x11, none, x13, some (.int n), x15, x16, some (.int tu), x18, none, none, none, none, none, none, none, none])
      (fun w => enPr (prW tb rs s w)) enW (fun w => doesA (actA tb rs s w) wl) (by
        have e : (allP tb rs s n).map enPr = (allW rs.length n).map fun w => enPr (prW tb rs s w) := by unfold allP; rw [List.map_map]; rfl
        rw [e]
        generalize ((allW rs.length n).map fun w => enPr (prW tb rs s w)) = PM
        generalize casesM s wl = C at *
        simp [mItV]) (by
        cases x6 with
        | none => rfl
        | some z =>
          have := h6 z rfl
          show (z.per && (true && true)) = true
          rw [this]
          rfl) (fun w hw => by
        obtain ⟨k1, k2⟩ := ok0 (prW tb rs s w) (List.mem_map.mpr ⟨w, hw, rfl⟩)
        have lw := lwanted_eq hN1 k1 k2 wl
        refine ⟨[x0, x1, some (.tup (tabsOf tb nt)), some (.tup (rs.map enR)), some (enS s), some (.lst ((allP tb rs s n).map enPr)), some (enW w), some (.lst (encC wl)), some (.tup (casesM s wl)), none, none, x11, none, x13, some (.int n), x15, x16, some (.int tu), x18, some (enS (actA tb rs s w)), none, none, none, none, none, none, none], rfl, ?_, fun _ => ?_, rfl, rfl⟩
        · have tS : ∃ X, enS (actA tb rs s w) = .tup X := ⟨_, rfl⟩
          have lw : f_lwanted [enS (actA tb rs s w), .lst (encC wl)] = .ok (.bl (doesA (actA tb rs s w) wl), []) := lw
          generalize doesA (actA tb rs s w) wl = dd at *
          generalize (allP tb rs s n).map enPr = PM at *
          generalize casesM s wl = C at *
          generalize encC wl = W at *
          generalize enS (actA tb rs s w) = S at *
          obtain ⟨X, rfl⟩ := tS
          simp [lw]
        · have tW : ∃ X, enW w = .tup X := ⟨_, rfl⟩
          generalize (allP tb rs s n).map enPr = PM at *
          generalize casesM s wl = C at *
          generalize enW w = W at *
          obtain ⟨X, rfl⟩ := tW
          simp) (by rw [sizeLine_eq]; have := allW_len (m := rs.length) (n := n) h3 hn; omega)
    exact lc
  obtain ⟨W', hW'⟩ := allW_nil rs.length n
  have hP0 : allP tb rs s n = ([], s) :: W'.map (prW tb rs s) := by unfold allP; rw [hW']; rfl
  have nn0 : ∀ q ∈ W'.map (prW tb rs s), q.1 ≠ [] := by
    intro q hq e
    obtain ⟨w, hw, rfl⟩ := List.mem_map.mp hq
    have up := allW_up (m := rs.length) n
    rw [hW'] at up
    have := (List.pairwise_cons.mp up).1 w hw
    have e : w = [] := e
    rw [e] at this
    exact slt_irr _ this
  have ht : mSeq (mAsg (mOp fAdd (mC (.int 1)) (mOp fMod (mVar 17) (mBlt bLen (mCons (mVar 10) (mNil))))) (gSet 11)) (mSeq (mAsg (mOp fAdd (mOp fAdd (mSl (mVar 10) (mNo) (mPart (mC (.int 1)))) (mRevA (mSl (mVar 10) (mPart (mVar 11)) (mNo)))) (mSl (mVar 10) (mPart (mC (.int 1))) (mPart (mVar 11)))) (gSet 12)) (mSeq (mIfS (mTest (mOp fNe (mFz (mCall f_pleast_holds (mCons (mVar 2) (mCons (mVar 3) (mCons (mVar 8) (mCons (mVar 14) (mCons (mTup (mCons (mC (.str "none")) (mCons (mBlt bTuple (mCons (mVar 12) (mNil))) (mNil)))) (mNil)))))))) (mOp fEq (mBlt bLen (mCons (mVar 9) (mNil))) (mC (.int 0))))) (mRet (mC (.bl false))) (mPass)) (mSeq (mFor (mItV (mSlV 5 (mNo) (mPart (mC (.int 12))))) (gTp 2 (gsCons (gSet 6) (gsCons (gSet 19) (gsNil)))) (b_law69_1)) (mRet (mC (.bl true)))))) = t70b := rfl
  unfold t70a
  rw [ht]
  by_cases odd : tu % 2 = 1
  · have lo := lone_eq (P := allP tb rs s n) (by omega) (fun q hq => by have := (allP_ok q hq).2.1; omega) (tu / 2)
    obtain ⟨Q', hQ⟩ := lone_first (tu / 2) hP0 nn0
    obtain ⟨ρ, e⟩ := end70 hb h16 hN1 hN hr h3 h h1 hl hn hs (St := (allP tb rs s n).filter (keepW (allP tb rs s n) (tu / 2))) (fun q hq => (List.mem_filter.mp hq).1) (fun q hq => lone_keeps hq) hQ (by have := List.length_filter_le (keepW (allP tb rs s n) (tu / 2)) (allP tb rs s n); omega) tu x0 x1 (some (enS s)) x6 (some (.lst (encC wl))) x11 x13 x15 x16 x18
    refine ⟨ρ, ?_⟩
    have fm : (tu : Int).fmod 2 = 1 := by rw [show (2 : Int) = ((2 : Nat) : Int) from rfl, nat_fmod, odd]; rfl
    have fd : (tu : Int).fdiv 2 = ((tu / 2 : Nat) : Int) := nat_fdiv tu 2
    have d2 : divOk 2 = true := by decide
    clear hQ hP0
    generalize ((allP tb rs s n).filter (keepW (allP tb rs s n) (tu / 2))).map enPr = SM at *
    generalize tu / 2 = tu2 at *
    generalize (((allW rs.length n).filter fun w => doesA (actA tb rs s w) wl).map enW) = WM at *
    generalize (allP tb rs s n).map enPr = PM at *
    generalize mLcO (mZip (mCons (mVar 4) (mCons (mVar 7) (mNil)))) (.tn [24, 25] 23) (mYes) (mTup (mCons (mVar 24) (mCons (mVar 25) (mCons (mVar 23) (mNil))))) [24, 25, 23] = LC at *
    generalize mLcO (mItV (mVar 5)) (.tp [6, 19]) (mTest (mFz (mCall0 f_lwanted (mCons (mVar 19) (mCons (mVar 7) (mNil)))))) (mVar 6) [6, 19] = LD at *
    generalize casesM s wl = C at *
    generalize encC wl = E at *
    generalize tabsOf tb nt = T at *
    generalize rs.map enR = R at *
    generalize enS s = S at *
    generalize t70b = TB at *
    simp [c1, bt, c2, fm, fd, d2, lo, e, szOk_small]
  · obtain ⟨ρ, e⟩ := end70 hb h16 hN1 hN hr h3 h h1 hl hn hs (St := allP tb rs s n) (fun q hq => hq) (fun q hq => ⟨q, hq, rfl, rfl⟩) hP0 (by omega) tu x0 x1 (some (enS s)) x6 (some (.lst (encC wl))) x11 x13 x15 x16 x18
    refine ⟨ρ, ?_⟩
    have fm : (tu : Int).fmod 2 = 0 := by rw [show (2 : Int) = ((2 : Nat) : Int) from rfl, nat_fmod, show tu % 2 = 0 by omega]; rfl
    have d2 : divOk 2 = true := by decide
    clear hP0
    generalize (((allW rs.length n).filter fun w => doesA (actA tb rs s w) wl).map enW) = WM at *
    generalize (allP tb rs s n).map enPr = PM at *
    generalize mLcO (mZip (mCons (mVar 4) (mCons (mVar 7) (mNil)))) (.tn [24, 25] 23) (mYes) (mTup (mCons (mVar 24) (mCons (mVar 25) (mCons (mVar 23) (mNil))))) [24, 25, 23] = LC at *
    generalize mLcO (mItV (mVar 5)) (.tp [6, 19]) (mTest (mFz (mCall0 f_lwanted (mCons (mVar 19) (mCons (mVar 7) (mNil)))))) (mVar 6) [6, 19] = LD at *
    generalize casesM s wl = C at *
    generalize encC wl = E at *
    generalize tabsOf tb nt = T at *
    generalize rs.map enR = R at *
    generalize enS s = S at *
    generalize t70b = TB at *
    simp [c1, bt, c2, fm, d2, e, szOk_small]
theorem law_true : ∀ ns : List Int, ns.length ≤ 63 → ∃ bs, f_law69 [.scr ns] = .ok (.bl true, bs) := by
  intro ns hns
  refine ⟨[], mFn_ok ?_⟩
  obtain ⟨c0, hc0⟩ := lcell_ok ns 0
  obtain ⟨ds, hd, hds⟩ := ldraws_ok c0 415 [6, 3, 4, 3, 5, 255, 96] (by decide) (by decide)
  simp only [draws_cons, draws_nil] at hd
  obtain ⟨d0, _, rfl, u0, d1, _, rfl, u1, d2, _, rfl, u2, d3, _, rfl, u3, d4, _, rfl, u4, d5, _, rfl, u5, d6, _, rfl, u6, rfl⟩ := hd
  have nn : ∀ z : Int, 0 ≤ z → ∃ k : Nat, z = k := fun z h => ⟨z.toNat, by omega⟩
  obtain ⟨n0, rfl⟩ := nn d0 u0.1
  obtain ⟨nt, rfl⟩ := nn d1 u1.1
  obtain ⟨n, rfl⟩ := nn d2 u2.1
  obtain ⟨tu, rfl⟩ := nn d6 u6.1
  have hn : n ≤ 3 := by omega
  have hnt : nt ≤ 16 := by omega
  obtain ⟨N, hNe, hN⟩ : ∃ N : Nat, 1 + (n0 : Int) = N ∧ (1 ≤ N ∧ N ≤ 20) := ⟨1 + n0, by omega, by omega⟩
  have hN2 : 1 ≤ N ∧ N ≤ 256 := ⟨hN.1, by omega⟩
  obtain ⟨rs0, q1, q2, q3, hm⟩ := lmenuR hN2 (nt := nt) (by omega) ns 3
  obtain ⟨rs, hrs⟩ : ∃ rs, rs0.take 3 = rs := ⟨_, rfl⟩
  have r1 : rs.all (okN N nt) = true := by
    rw [List.all_eq_true] at q1 ⊢
    intro r hr
    rw [← hrs] at hr
    exact q1 r (List.mem_of_mem_take hr)
  have r2 : 1 ≤ rs.length ∧ rs.length ≤ 3 := by rw [← hrs, List.length_take]; omega
  have cut : cutM (rs0.map enR) none (some 3) = rs.map enR := by rw [cutM_to (by decide), ← hrs, List.map_take]; rfl
  obtain ⟨s0, p1, p2, p3, hs⟩ := lstarts_ok hN2 ns 8
  obtain ⟨s, hse⟩ : ∃ s, s0.take 3 = s := ⟨_, rfl⟩
  have s1 : StOk N s := fun p hp => p1 p (List.mem_of_mem_take (by rw [hse]; exact hp))
  have s2 : 1 ≤ s.length := by rw [← hse, List.length_take]; omega
  have s3 : s.length ≤ 20 := by rw [← hse, List.length_take]; omega
  have cutS : cutM (s0.map fun p => .tup [.tup (encC p.1), .int p.2]) none (some 3) = s.map fun p => .tup [.tup (encC p.1), .int p.2] := by rw [cutM_to (by decide), ← hse, List.map_take]; rfl
  obtain ⟨tb, tlt, hsh⟩ := shelves70 ns N n nt hnt (some (.int d4)) (some (.int d3)) (some (.int d5)) (some (.int tu))
  have hb : TabLt tb nt := fun k v _ _ => tlt k v
  have ta : TabsAre tb nt (tabsOf tb nt) := tabs_gen tb nt
  have lall := lallW_eq (m := rs.length) r2.2 hn
  obtain ⟨W', hW'⟩ := allW_nil rs.length n
  have cutW : cutM ((allW rs.length n).map enW) (some 1) none = W'.map enW := by rw [cutM_from (by decide), hW']; rfl
  obtain ⟨y6, y18, h6, lp⟩ := pairs70 ta hb hN2.2 r1 r2.2 s1 (by omega) hn (some (.scr ns)) (some (.int N)) (some (enS s)) none none none none (some (.int d4)) none (some (.int nt)) (some (.int n)) (some (.int d3)) (some (.int d5)) (some (.int tu)) none none none none none none W' [[]] none none (by rw [hW']; rfl) (List.mem_cons_self ..) (fun x h => nomatch h)
  rw [show [[]] ++ W' = allW rs.length n from hW'.symm] at lp
  have eP : ((allW rs.length n).map fun w => enPr (prW tb rs s w)) = (allP tb rs s n).map enPr := by unfold allP; rw [List.map_map]; rfl
  rw [eP] at lp
  have lp : mLoop (gSet 6) b_law69_0 (W'.map enW) [some (.scr ns), some (.int N), some (.tup (tabsOf tb nt)), some (.tup (rs.map enR)), some (enS s), some (.own [.tup [.tup [], enS s]]), none, none, none, none, none, some (.int d4), none, some (.int nt), some (.int n), some (.int d3), some (.int d5), some (.int tu), none, none, none, none, none, none, none, none, none] = _ := lp
  -- the state that gives the wanted bytes
  have lP : (allP tb rs s n).length ≤ 40 := by unfold allP; rw [List.length_map]; exact allW_len r2.2 hn
  have lP0 : 0 < (allP tb rs s n).length := by unfold allP; rw [hW']; simp
  have im : tu % (allP tb rs s n).length < (allP tb rs s n).length := Nat.mod_lt _ lP0
  obtain ⟨q, hq⟩ : ∃ q, (allP tb rs s n)[tu % (allP tb rs s n).length] = q := ⟨_, rfl⟩
  have qm : q ∈ allP tb rs s n := by rw [← hq]; exact List.getElem_mem _
  have at1 := at_map enPr im
  rw [hq] at at1
  obtain ⟨g, hg⟩ : ∃ g, q.2 = g := ⟨_, rfl⟩
  have go : StOk N g ∧ g.length = s.length := by
    obtain ⟨_, _, w3⟩ := allP_ok q qm
    rw [← hg, w3]
    exact actA_ok hb r1 q.1 s s1
  have eq : enPr q = .tup [enW q.1, enS g] := by rw [← hg]; rfl
  rw [eq] at at1
  have lM : ((allP tb rs s n).map enPr).length = (allP tb rs s n).length := List.length_map ..
  have zP : szOk (allP tb rs s n).length = true := szOk_small (by omega)
  have dP : divOk ((allP tb rs s n).length : Int) = true := divOk_small (by omega) (by omega)
  have nzP : ¬ allP tb rs s n = [] := by intro e; rw [e] at lP0; simp at lP0
  have fmP : (tu : Int).fmod ((allP tb rs s n).length : Int) = ((tu % (allP tb rs s n).length : Nat) : Int) := nat_fmod tu _
  obtain ⟨wl0, hwl0⟩ : ∃ l, (g.map fun p => cg p.1 0) = l := ⟨_, rfl⟩
  have lw : wl0.length = s.length := by rw [← hwl0, List.length_map]; exact go.2
  have a0 : ∀ (x : MV) (l : List MV), atI (x :: l) 0 = some x := fun x l => by rw [atI_ge (by decide)]; rfl
  have a1 : ∀ (x y : MV), atI [x, y] 1 = some y := fun x y => by rw [atI_ge (by decide)]; rfl
  have wlc : mLcO (mItV (mOp fIx (mIxV 5 (mOp fMod (mVar 17) (mLenV 5))) (mC (.int 1)))) (.nm 21) (mYes) (mOp fIx (mOp fIx (mVar 21) (mC (.int 0))) (mC (.int 0))) [21] [some (.scr ns), some (.int N), some (.tup (tabsOf tb nt)), some (.tup (rs.map enR)), some (enS s), some (.own ((allP tb rs s n).map enPr)), y6, none, none, none, none, some (.int d4), none, some (.int nt), some (.int n), some (.int d3), some (.int d5), some (.int tu), y18, none, none, none, none, none, none, none, none] = .ok (.own (encC wl0), [some (.scr ns), some (.int N), some (.tup (tabsOf tb nt)), some (.tup (rs.map enR)), some (enS s), some (.own ((allP tb rs s n).map enPr)), y6, none, none, none, none, some (.int d4), none, some (.int nt), some (.int n), some (.int d3), some (.int d5), some (.int tu), y18, none, none, none, none, none, none, none, none]) := by
    have lc := mLcO_itf (it := mItV (mOp fIx (mIxV 5 (mOp fMod (mVar 17) (mLenV 5))) (mC (.int 1)))) (g := .nm 21) (t := mYes) (e := mOp fIx (mOp fIx (mVar 21) (mC (.int 0))) (mC (.int 0))) (vs := [21]) (l := g) (ρ := [some (.scr ns), some (.int N), some (.tup (tabsOf tb nt)), some (.tup (rs.map enR)), some (enS s), some (.own ((allP tb rs s n).map enPr)), y6, none, none, none, none, some (.int d4), none, some (.int nt), some (.int n), some (.int d3), some (.int d5), some (.int tu), y18, none, none, none, none, none, none, none, none]) (ρ1 := [some (.scr ns), some (.int N), some (.tup (tabsOf tb nt)), some (.tup (rs.map enR)), some (enS s), some (.own ((allP tb rs s n).map enPr)), y6, none, none, none, none, some (.int d4), none, some (.int nt), some (.int n), some (.int d3), some (.int d5), some (.int tu), y18, none, none, none, none, none, none, none, none])
      (fun p => .tup [.tup (encC p.1), .int p.2]) (fun p => .int (cg p.1 0 : Nat)) (fun _ => true) (by
        have eg : enS g = .tup (g.map fun p => .tup [.tup (encC p.1), .int p.2]) := rfl
        rw [eg] at at1
        clear hwl0 hq eP eg lp
        generalize (g.map fun p : List Nat × Nat => MV.tup [.tup (encC p.1), .int p.2]) = G at *
        generalize hAL : (allP tb rs s n).length = AL at *
        generalize tu % AL = tm at *
        generalize (allP tb rs s n).map enPr = PM at *
        have nz2 : ¬ AL = 0 := by omega
        have gv : ∀ (r : List (Option MV)) (x0 x1 x2 x3 x4 : Option MV), ixV (x0 :: x1 :: x2 :: x3 :: x4 :: some (.own PM) :: r) 5 (.int (tm : Int)) = some (.tup [enW q.1, .tup G]) := fun r x0 x1 x2 x3 x4 => by simpa [ixV, ixL] using at1
        have lv : ∀ (r : List (Option MV)) (x0 x1 x2 x3 x4 : Option MV), lenV (x0 :: x1 :: x2 :: x3 :: x4 :: some (.own PM) :: r) 5 = some (.int (AL : Int)) := fun r x0 x1 x2 x3 x4 => by simp [lenV, lM, zP]
        simp [mItV, has, lv, dP, nz2, fmP, gv, a1, lM, zP]) rfl (fun p hp => by
        have h0 := at0_enc (go.1 p hp).1 hN.1
        refine ⟨[some (.scr ns), some (.int N), some (.tup (tabsOf tb nt)), some (.tup (rs.map enR)), some (enS s), some (.own ((allP tb rs s n).map enPr)), y6, none, none, none, none, some (.int d4), none, some (.int nt), some (.int n), some (.int d3), some (.int d5), some (.int tu), y18, none, none, some (.tup [.tup (encC p.1), .int p.2]), none, none, none, none, none], rfl, rfl, fun _ => ?_, rfl, rfl⟩
        clear lp
        generalize encC p.1 = C at *
        generalize (allP tb rs s n).map enPr = PM at *
        simp [a0, h0]) (by rw [sizeLine_eq]; omega)
    rw [List.filter_eq_self.mpr fun _ _ => rfl] at lc
    have eW : (g.map fun p : List Nat × Nat => MV.int (cg p.1 0 : Nat)) = encC wl0 := by rw [← hwl0]; unfold encC; rw [List.map_map]; rfl
    rw [eW] at lc
    exact lc
  have fin : ∀ (wf : List Nat) (xa : Option MV), s.length = wf.length → ∃ ρ, t70a [some (.scr ns), some (.int N), some (.tup (tabsOf tb nt)), some (.tup (rs.map enR)), some (enS s), some (.own ((allP tb rs s n).map enPr)), y6, some (.own (encC wf)), none, none, none, xa, none, some (.int nt), some (.int n), some (.int d3), some (.int d5), some (.int tu), y18, none, none, none, none, none, none, none, none] = .ok (.rt (.bl true), ρ) := fun wf xa hw => mid70 hb hnt hN.1 hN.2 r1 r2.2 s1 s2 s3 hn hw tu (some (.scr ns)) (some (.int N)) y6 xa (some (.int nt)) (some (.int d3)) (some (.int d5)) y18 h6
  have bt : ∀ L : List MV, bTuple [.lst L] = some (.tup L) := fun _ => rfl
  have ht : mSeq (mAsg (mBlt bTuple (mCons (mFz (mLcO (mZip (mCons (mVar 4) (mCons (mVar 7) (mNil)))) (.tn [24, 25] 23) (mYes) (mTup (mCons (mVar 24) (mCons (mVar 25) (mCons (mVar 23) (mNil))))) [24, 25, 23])) (mNil))) (gSet 8)) (mSeq (mSetO 9 (mLcO (mItV (mVar 5)) (.tp [6, 19]) (mTest (mFz (mCall0 f_lwanted (mCons (mVar 19) (mCons (mVar 7) (mNil)))))) (mVar 6) [6, 19])) (mSeq (mAsg (mVar 5) (gSet 10)) (mSeq (mIfS (mTest (mOp fEq (mOp fMod (mVar 17) (mC (.int 2))) (mC (.int 1)))) (mAsg (mFz (mCall f_lone_each (mCons (mVar 5) (mCons (mOp fDiv (mVar 17) (mC (.int 2))) (mNil))))) (gSet 10)) (mPass)) (mSeq (mAsg (mOp fAdd (mC (.int 1)) (mOp fMod (mVar 17) (mBlt bLen (mCons (mVar 10) (mNil))))) (gSet 11)) (mSeq (mAsg (mOp fAdd (mOp fAdd (mSl (mVar 10) (mNo) (mPart (mC (.int 1)))) (mRevA (mSl (mVar 10) (mPart (mVar 11)) (mNo)))) (mSl (mVar 10) (mPart (mC (.int 1))) (mPart (mVar 11)))) (gSet 12)) (mSeq (mIfS (mTest (mOp fNe (mFz (mCall f_pleast_holds (mCons (mVar 2) (mCons (mVar 3) (mCons (mVar 8) (mCons (mVar 14) (mCons (mTup (mCons (mC (.str "none")) (mCons (mBlt bTuple (mCons (mVar 12) (mNil))) (mNil)))) (mNil)))))))) (mOp fEq (mBlt bLen (mCons (mVar 9) (mNil))) (mC (.int 0))))) (mRet (mC (.bl false))) (mPass)) (mSeq (mFor (mItV (mSlV 5 (mNo) (mPart (mC (.int 12))))) (gTp 2 (gsCons (gSet 6) (gsCons (gSet 19) (gsNil)))) (b_law69_1)) (mRet (mC (.bl true)))))))))) = t70a := rfl
  unfold m_law69
  rw [ht]
  clear ht hwl0 hq eP at1
  have lR : (rs.map enR).length = rs.length := List.length_map ..
  have zR : szOk rs.length = true := szOk_small (by omega)
  have es0 : enS s0 = .tup (s0.map fun p => .tup [.tup (encC p.1), .int p.2]) := rfl
  have es : enS s = .tup (s.map fun p => .tup [.tup (encC p.1), .int p.2]) := rfl
  rw [es0] at hs
  by_cases hgo : 0 < d3
  · have dl : divOk (wl0.length : Int) = true := divOk_small (by omega) (by omega)
    have nz : ¬ (wl0.length : Int) = 0 := by omega
    have nz1 : ¬ wl0.length = 0 := by omega
    have nz2 : ¬ wl0 = [] := by intro e; rw [e] at nz1; exact nz1 rfl
    obtain ⟨k, hk, kb⟩ : ∃ k : Nat, d4.fmod (wl0.length : Int) = (k : Int) ∧ k < wl0.length := by
      have g1 := @fmod_ge' d4 (wl0.length : Int) (by omega)
      have g2 := @fmod_lt' d4 (wl0.length : Int) (by omega)
      exact ⟨(d4.fmod (wl0.length : Int)).toNat, by omega, by omega⟩
    obtain ⟨v, hv⟩ : ∃ v : Nat, ((wl0[k] : Nat) + 1 + d5 : Int).fmod 256 = (v : Int) := by
      have g1 := @fmod_ge' ((wl0[k] : Nat) + 1 + d5 : Int) 256 (by decide)
      exact ⟨(((wl0[k] : Nat) + 1 + d5 : Int).fmod 256).toNat, by omega⟩
    obtain ⟨ρ, e⟩ := fin (wl0.set k v) (some (.int k)) (by rw [List.length_set]; exact lw.symm)
    have lE : (encC wl0).length = wl0.length := by unfold encC; exact List.length_map ..
    have aq : atI (encC wl0) (k : Int) = some (.int (wl0[k] : Nat)) := at_map (fun d : Nat => MV.int d) kb
    have ee : encC (wl0.set k v) = (encC wl0).set k (.int v) := by unfold encC; rw [List.map_set]
    rw [ee] at e
    have d256 : divOk 256 = true := by decide
    have si := @setIx_k 7 [some (.scr ns), some (.int N), some (.tup (tabsOf tb nt)), some (.tup (rs.map enR)), some (enS s), some (.own ((allP tb rs s n).map enPr)), y6, some (.own (encC wl0)), none, none, none, some (.int k), none, some (.int nt), some (.int n), some (.int d3), some (.int d5), some (.int tu), y18, none, none, none, none, none, none, none, none] (encC wl0) k (.int v) rfl (by rw [lE]; exact kb)
    have gv : ixV [some (.scr ns), some (.int N), some (.tup (tabsOf tb nt)), some (.tup (rs.map enR)), some (enS s), some (.own ((allP tb rs s n).map enPr)), y6, some (.own (encC wl0)), none, none, none, some (.int k), none, some (.int nt), some (.int n), some (.int d3), some (.int d5), some (.int tu), y18, none, none, none, none, none, none, none, none] 7 (.int k) = some (.int (wl0[k] : Nat)) := by simpa [ixV, ixL] using aq
    refine ⟨ρ, ?_⟩
    rw [es] at lp wlc si gv e
    have hlen : ¬ encC wl0 = [] := by intro z; rw [z] at lE; simp at lE; omega
    clear es es0 fin
    generalize (encC wl0).set k (.int v) = E2 at *
    generalize encC wl0 = E at *
    generalize t70a = TL at *
    generalize mLcO (mR1 (mCons (mVar 13) (mNil))) (.nm 22) (mYes) (mFz (mCall0 f_lsome_table (mCons (mFz (mCall0 f_lcell (mCons (mVar 0) (mCons (mOp fAdd (mC (.int 1)) (mVar 22)) (mNil))))) (mCons (mOp fAdd (mC (.int 47)) (mVar 22)) (mNil))))) [22] = LT at *
    generalize mLcO (mItV (mOp fIx (mIxV 5 (mOp fMod (mVar 17) (mLenV 5))) (mC (.int 1)))) (.nm 21) (mYes) (mOp fIx (mOp fIx (mVar 21) (mC (.int 0))) (mC (.int 0))) [21] = LW at *
    generalize (allP tb rs s n).map enPr = PM at *
    generalize (allW rs.length n).map enW = AM at *
    generalize W'.map enW = WM at *
    generalize tabsOf tb nt = T at *
    generalize rs.map enR = R at *
    generalize rs0.map enR = R0 at *
    generalize (s.map fun p : List Nat × Nat => MV.tup [.tup (encC p.1), .int p.2]) = S at *
    generalize (s0.map fun p : List Nat × Nat => MV.tup [.tup (encC p.1), .int p.2]) = S0 at *
    simp at hc0 hds hm hs
    simp [hc0, hds, szOk_small, hNe, hsh, bt, hm, cut, hs, cutS, lR, zR, lall, cutW, lp, wlc, hgo, lE, dl, nz, nz1, nz2, hlen, hk, gv, d256, hv, si, e]
  · obtain ⟨ρ, e⟩ := fin wl0 (some (.int d4)) lw.symm
    refine ⟨ρ, ?_⟩
    rw [es] at lp wlc e
    clear es es0 fin
    generalize encC wl0 = E at *
    generalize t70a = TL at *
    generalize mLcO (mR1 (mCons (mVar 13) (mNil))) (.nm 22) (mYes) (mFz (mCall0 f_lsome_table (mCons (mFz (mCall0 f_lcell (mCons (mVar 0) (mCons (mOp fAdd (mC (.int 1)) (mVar 22)) (mNil))))) (mCons (mOp fAdd (mC (.int 47)) (mVar 22)) (mNil))))) [22] = LT at *
    generalize mLcO (mItV (mOp fIx (mIxV 5 (mOp fMod (mVar 17) (mLenV 5))) (mC (.int 1)))) (.nm 21) (mYes) (mOp fIx (mOp fIx (mVar 21) (mC (.int 0))) (mC (.int 0))) [21] = LW at *
    generalize (allP tb rs s n).map enPr = PM at *
    generalize (allW rs.length n).map enW = AM at *
    generalize W'.map enW = WM at *
    generalize tabsOf tb nt = T at *
    generalize rs.map enR = R at *
    generalize rs0.map enR = R0 at *
    generalize (s.map fun p : List Nat × Nat => MV.tup [.tup (encC p.1), .int p.2]) = S at *
    generalize (s0.map fun p : List Nat × Nat => MV.tup [.tup (encC p.1), .int p.2]) = S0 at *
    simp at hc0 hds hm hs
    simp [hc0, hds, szOk_small, hNe, hsh, bt, hm, cut, hs, cutS, lR, zR, lall, cutW, lp, wlc, hgo, e]
def top (i : Nat) : Stmt := PySem.Challenge.pw_tensloft_k70_none_in_any_order.main.body.getD i (.Pass ⟨0, 0, 0, 0⟩)
abbrev s_ini_NoRow : Stmt := inCls (top 3) 0
theorem sc_ini_NoRow : FnScope ["self", "at"] ["self", "at"] (defScope s_ini_NoRow) := ⟨rfl, rfl, rfl, by decide +kernel, rfl, by decide +kernel, by decide +kernel⟩
theorem ini_NoRow {P : Program} {w : World} {K : PySem.W.Frag} {mg : Str → Option Value} {base : Heap} {a : Addr} {fd : FuncData} (F : Fun K "__init__" "NoRow.__init__" s_ini_NoRow a fd) (B : Bas K mg "LoftError") : FnOk P w K mg base (L2N.CX P w) 2 a fd ["self", "at"] (spI1 K "at") :=
  init1 F sc_ini_NoRow B rfl (fun _ _ => rfl) (by decide +kernel) (by decide +kernel) (fun _ => ⟨_, rfl⟩) (by decide) (by decide) (by decide)
abbrev s_ini_NoTable : Stmt := inCls (top 2) 0
theorem sc_ini_NoTable : FnScope ["self", "at"] ["self", "at"] (defScope s_ini_NoTable) := ⟨rfl, rfl, rfl, by decide +kernel, rfl, by decide +kernel, by decide +kernel⟩
theorem ini_NoTable {P : Program} {w : World} {K : PySem.W.Frag} {mg : Str → Option Value} {base : Heap} {a : Addr} {fd : FuncData} (F : Fun K "__init__" "NoTable.__init__" s_ini_NoTable a fd) (B : Bas K mg "LoftError") : FnOk P w K mg base (L2N.CX P w) 2 a fd ["self", "at"] (spI1 K "at") :=
  init1 F sc_ini_NoTable B rfl (fun _ _ => rfl) (by decide +kernel) (by decide +kernel) (fun _ => ⟨_, rfl⟩) (by decide) (by decide) (by decide)
abbrev s_lmixed : Stmt := top 34
theorem sc_lmixed : FnScope ["_law_cell_here", "_law_k", "_law_salt", "_law_primes", "_law_one", "_law_two"] ["_law_cell_here", "_law_k", "_law_salt"] (defScope s_lmixed) := ⟨rfl, rfl, rfl, by decide +kernel, rfl, by decide +kernel, by decide +kernel⟩
theorem v_lmixed_0 : (defScope s_lmixed).names.lookup ("_law_cell_here" : Str) = some NameKind.local := by decide +kernel
theorem v_lmixed_1 : (defScope s_lmixed).names.lookup ("_law_k" : Str) = some NameKind.local := by decide +kernel
theorem v_lmixed_2 : (defScope s_lmixed).names.lookup ("_law_salt" : Str) = some NameKind.local := by decide +kernel
theorem v_lmixed_3 : (defScope s_lmixed).names.lookup ("_law_primes" : Str) = some NameKind.local := by decide +kernel
theorem v_lmixed_4 : (defScope s_lmixed).names.lookup ("_law_one" : Str) = some NameKind.local := by decide +kernel
theorem v_lmixed_5 : (defScope s_lmixed).names.lookup ("_law_two" : Str) = some NameKind.local := by decide +kernel
theorem ok_lmixed {P : Program} {w : World} {K : PySem.W.Frag} {mg : Str → Option Value} {base : Heap} {f : Addr} {fd : FuncData} (F : Fun K "_law_mixed" "_law_mixed" s_lmixed f fd) (B : Bn mg)     :
    FnOk P w K mg base (L2N.CX P w) 2 f fd ["_law_cell_here", "_law_k", "_law_salt"] (spF K mg 3 [] f_lmixed) := by
  refine fn_ok F sc_lmixed (by decide) (by decide) fun cdv A outer s H E hr => ?_
  have nd := sc_lmixed.nd
  have tk : L2N.Takes (cxOf (L2N.CX P w) P w K mg base ["_law_cell_here", "_law_k", "_law_salt", "_law_primes", "_law_one", "_law_two"] "_law_mixed" (defScope s_lmixed) f cdv A outer s H E) (fun cls d _ H => E cls d H) := L2N.takes_of rfl rfl rfl rfl
  have pn : PassesOwn (model P w) (cxOf (L2N.CX P w) P w K mg base ["_law_cell_here", "_law_k", "_law_salt", "_law_primes", "_law_one", "_law_two"] "_law_mixed" (defScope s_lmixed) f cdv A outer s H E).A (cxOf (L2N.CX P w) P w K mg base ["_law_cell_here", "_law_k", "_law_salt", "_law_primes", "_law_one", "_law_two"] "_law_mixed" (defScope s_lmixed) f cdv A outer s H E).env (cxOf (L2N.CX P w) P w K mg base ["_law_cell_here", "_law_k", "_law_salt", "_law_primes", "_law_one", "_law_two"] "_law_mixed" (defScope s_lmixed) f cdv A outer s H E).xe := passes_of rfl
  unfold m_lmixed
  exact mss_cons (ms_set (i := 3) nd rfl (.inl v_lmixed_3) (me_lst (ma_cons (me_int) (ma_cons (me_int) (ma_cons (me_int) (ma_cons (me_int) (ma_cons (me_int) (ma_cons (me_int) (ma_cons (me_int) (ma_cons (me_int) (ma_nil))))))))))) (mss_cons (ms_set (i := 4) nd rfl (.inl v_lmixed_4) (me_mod (me_add (me_add (me_add (me_var (i := 0) rfl (.inl v_lmixed_0)) (me_mul (me_int) (me_var (i := 2) rfl (.inl v_lmixed_2)))) (me_mul (me_int) (me_var (i := 1) rfl (.inl v_lmixed_1)))) (me_int)) (me_int))) (mss_cons (ms_set (i := 4) nd rfl (.inl v_lmixed_4) (me_mod (me_pow (me_var (i := 4) rfl (.inl v_lmixed_4)) (me_int)) (me_ix (me_var (i := 3) rfl (.inl v_lmixed_3)) (me_mod (me_var (i := 1) rfl (.inl v_lmixed_1)) (me_int))))) (mss_cons (ms_set (i := 5) nd rfl (.inl v_lmixed_5) (me_mod (me_add (me_add (me_var (i := 4) rfl (.inl v_lmixed_4)) (me_mul (me_int) (me_var (i := 2) rfl (.inl v_lmixed_2)))) (me_var (i := 1) rfl (.inl v_lmixed_1))) (me_int))) (mss_one (ms_ret (me_add (me_mul (me_mod (me_pow (me_var (i := 5) rfl (.inl v_lmixed_5)) (me_int)) (me_int)) (me_int)) (me_var (i := 4) rfl (.inl v_lmixed_4))))))))

abbrev s_ldraws : Stmt := top 35
theorem sc_ldraws : FnScope ["_law_cell_here", "_law_salt", "_law_widths", "_law_found", "_law_left", "_law_k"] ["_law_cell_here", "_law_salt", "_law_widths"] (defScope s_ldraws) := ⟨rfl, rfl, rfl, by decide +kernel, rfl, by decide +kernel, by decide +kernel⟩
theorem v_ldraws_0 : (defScope s_ldraws).names.lookup ("_law_cell_here" : Str) = some NameKind.local := by decide +kernel
theorem v_ldraws_1 : (defScope s_ldraws).names.lookup ("_law_salt" : Str) = some NameKind.local := by decide +kernel
theorem v_ldraws_2 : (defScope s_ldraws).names.lookup ("_law_widths" : Str) = some NameKind.local := by decide +kernel
theorem v_ldraws_3 : (defScope s_ldraws).names.lookup ("_law_found" : Str) = some NameKind.local := by decide +kernel
theorem v_ldraws_4 : (defScope s_ldraws).names.lookup ("_law_left" : Str) = some NameKind.local := by decide +kernel
theorem v_ldraws_5 : (defScope s_ldraws).names.lookup ("_law_k" : Str) = some NameKind.local := by decide +kernel
theorem g_ldraws_abs (L a : Addr) (cd : Value) : (PyProof.Rows.envOfC "_law_draws" (defScope s_ldraws) L a cd).kindOf ("abs" : Str) = some NameKind.globalImplicit := rfl
theorem g_ldraws_len (L a : Addr) (cd : Value) : (PyProof.Rows.envOfC "_law_draws" (defScope s_ldraws) L a cd).kindOf ("len" : Str) = some NameKind.globalImplicit := rfl
theorem g_ldraws_range (L a : Addr) (cd : Value) : (PyProof.Rows.envOfC "_law_draws" (defScope s_ldraws) L a cd).kindOf ("range" : Str) = some NameKind.globalImplicit := rfl
theorem g_ldraws_law_mixed (L a : Addr) (cd : Value) : (PyProof.Rows.envOfC "_law_draws" (defScope s_ldraws) L a cd).kindOf ("_law_mixed" : Str) = some NameKind.globalImplicit := rfl
theorem ok_ldraws {P : Program} {w : World} {K : PySem.W.Frag} {mg : Str → Option Value} {base : Heap} {f : Addr} {fd : FuncData} (F : Fun K "_law_draws" "_law_draws" s_ldraws f fd) (B : Bn mg) (h_lmixed : Fd P w K mg base "_law_mixed" 2 ["_law_cell_here", "_law_k", "_law_salt"] [] f_lmixed)    :
    FnOk P w K mg base (L2N.CX P w) 4 f fd ["_law_cell_here", "_law_salt", "_law_widths"] (spF K mg 3 [] f_ldraws) := by
  refine fn_ok F sc_ldraws (by decide) (by decide) fun cdv A outer s H E hr => ?_
  have nd := sc_ldraws.nd
  have tk : L2N.Takes (cxOf (L2N.CX P w) P w K mg base ["_law_cell_here", "_law_salt", "_law_widths", "_law_found", "_law_left", "_law_k"] "_law_draws" (defScope s_ldraws) f cdv A outer s H E) (fun cls d _ H => E cls d H) := L2N.takes_of rfl rfl rfl rfl
  have pn : PassesOwn (model P w) (cxOf (L2N.CX P w) P w K mg base ["_law_cell_here", "_law_salt", "_law_widths", "_law_found", "_law_left", "_law_k"] "_law_draws" (defScope s_ldraws) f cdv A outer s H E).A (cxOf (L2N.CX P w) P w K mg base ["_law_cell_here", "_law_salt", "_law_widths", "_law_found", "_law_left", "_law_k"] "_law_draws" (defScope s_ldraws) f cdv A outer s H E).env (cxOf (L2N.CX P w) P w K mg base ["_law_cell_here", "_law_salt", "_law_widths", "_law_found", "_law_left", "_law_k"] "_law_draws" (defScope s_ldraws) f cdv A outer s H E).xe := passes_of rfl
  unfold m_ldraws
  exact mss_cons (ms_setO (i := 3) nd rfl (.inl v_ldraws_3) (mo_lst (ma_nil))) (mss_cons (ms_set (i := 4) nd rfl (.inl v_ldraws_4) (me_int)) (mss_cons (ms_if (mt_cmp op_ge os_ge (mb_abs B.abs (ma_cons (me_var (i := 0) rfl (.inl v_ldraws_0)) (ma_nil)) (hg := (g_ldraws_abs _ _ _))) (me_pow (me_int) (me_int)) (nomark _)) (mss_one (ms_set (i := 4) nd rfl (.inl v_ldraws_4) (mb_abs B.abs (ma_cons (me_var (i := 0) rfl (.inl v_ldraws_0)) (ma_nil)) (hg := (g_ldraws_abs _ _ _))))) (mss_nil)) (mss_cons (ms_for pn rfl (mi_r1 B.range (ma_cons (mb_len B.len (ma_cons (me_var (i := 2) rfl (.inl v_ldraws_2)) (ma_nil)) (hg := (g_ldraws_len _ _ _))) (ma_nil)) (hg := (g_ldraws_range _ _ _))) (mg_name (i := 5) nd rfl (.inl v_ldraws_5)) (mss_one (ms_if (mt_cmp op_gt os_gt (me_var (i := 4) rfl (.inl v_ldraws_4)) (me_int) (nomark _)) (mss_cons (ms_expr (me_lm1 ls_append PySem.F.slot_list_append PySem.F.type_list_append mt_append (i := 3) rfl (.inl v_ldraws_3) (ma_cons (me_mod (me_var (i := 4) rfl (.inl v_ldraws_4)) (me_ix (me_var (i := 2) rfl (.inl v_ldraws_2)) (me_var (i := 5) rfl (.inl v_ldraws_5)))) (ma_nil)))) (mss_one (ms_set (i := 4) nd rfl (.inl v_ldraws_4) (me_div (me_var (i := 4) rfl (.inl v_ldraws_4)) (me_ix (me_var (i := 2) rfl (.inl v_ldraws_2)) (me_var (i := 5) rfl (.inl v_ldraws_5))))))) (mss_one (ms_expr (me_lm1 ls_append PySem.F.slot_list_append PySem.F.type_list_append mt_append (i := 3) rfl (.inl v_ldraws_3) (ma_cons (me_mod (me_fz (mf_call h_lmixed hr (by decide) tk (ma_cons (me_var (i := 0) rfl (.inl v_ldraws_0)) (ma_cons (me_var (i := 5) rfl (.inl v_ldraws_5)) (ma_cons (me_var (i := 1) rfl (.inl v_ldraws_1)) (ma_nil)))) (lng_cons (lng_cons (lng_cons lng_nil))) (hg := (g_ldraws_law_mixed _ _ _)))) (me_ix (me_var (i := 2) rfl (.inl v_ldraws_2)) (me_var (i := 5) rfl (.inl v_ldraws_5)))) (ma_nil)))))))) (mss_one (ms_retO (mo_var (i := 3) rfl (.inl v_ldraws_3)))))))

abbrev s_lcell : Stmt := top 33
theorem sc_lcell : FnScope ["_law_script", "_law_k"] ["_law_script", "_law_k"] (defScope s_lcell) := ⟨rfl, rfl, rfl, by decide +kernel, rfl, by decide +kernel, by decide +kernel⟩
theorem v_lcell_0 : (defScope s_lcell).names.lookup ("_law_script" : Str) = some NameKind.local := by decide +kernel
theorem v_lcell_1 : (defScope s_lcell).names.lookup ("_law_k" : Str) = some NameKind.local := by decide +kernel
theorem g_lcell_len (L a : Addr) (cd : Value) : (PyProof.Rows.envOfC "_law_cell" (defScope s_lcell) L a cd).kindOf ("len" : Str) = some NameKind.globalImplicit := rfl
theorem ok_lcell {P : Program} {w : World} {K : PySem.W.Frag} {mg : Str → Option Value} {base : Heap} {f : Addr} {fd : FuncData} (F : Fun K "_law_cell" "_law_cell" s_lcell f fd) (B : Bn mg)     :
    FnOk P w K mg base (L2N.CX P w) 2 f fd ["_law_script", "_law_k"] (spF K mg 2 [] f_lcell) := by
  refine fn_ok F sc_lcell (by decide) (by decide) fun cdv A outer s H E hr => ?_
  have nd := sc_lcell.nd
  have tk : L2N.Takes (cxOf (L2N.CX P w) P w K mg base ["_law_script", "_law_k"] "_law_cell" (defScope s_lcell) f cdv A outer s H E) (fun cls d _ H => E cls d H) := L2N.takes_of rfl rfl rfl rfl
  have pn : PassesOwn (model P w) (cxOf (L2N.CX P w) P w K mg base ["_law_script", "_law_k"] "_law_cell" (defScope s_lcell) f cdv A outer s H E).A (cxOf (L2N.CX P w) P w K mg base ["_law_script", "_law_k"] "_law_cell" (defScope s_lcell) f cdv A outer s H E).env (cxOf (L2N.CX P w) P w K mg base ["_law_script", "_law_k"] "_law_cell" (defScope s_lcell) f cdv A outer s H E).xe := passes_of rfl
  unfold m_lcell
  exact mss_cons (ms_if (mt_cmp op_lt os_lt (me_var (i := 1) rfl (.inl v_lcell_1)) (mb_len B.len (ma_cons (me_var (i := 0) rfl (.inl v_lcell_0)) (ma_nil)) (hg := (g_lcell_len _ _ _))) (nomark _)) (mss_one (ms_ret (me_ix (me_var (i := 0) rfl (.inl v_lcell_0)) (me_var (i := 1) rfl (.inl v_lcell_1))))) (mss_nil)) (mss_cons (ms_if (mt_cmp (op_eqM hr.units) os_eq (mb_len B.len (ma_cons (me_var (i := 0) rfl (.inl v_lcell_0)) (ma_nil)) (hg := (g_lcell_len _ _ _))) (me_int) (nomark _)) (mss_one (ms_ret (me_mul (me_int) (me_add (me_var (i := 1) rfl (.inl v_lcell_1)) (me_int))))) (mss_nil)) (mss_one (ms_ret (me_add (me_ix (me_var (i := 0) rfl (.inl v_lcell_0)) (me_mod (me_var (i := 1) rfl (.inl v_lcell_1)) (mb_len B.len (ma_cons (me_var (i := 0) rfl (.inl v_lcell_0)) (ma_nil)) (hg := (g_lcell_len _ _ _))))) (me_mul (me_int) (me_var (i := 1) rfl (.inl v_lcell_1)))))))

abbrev s_lsome_row : Stmt := top 37
theorem sc_lsome_row : FnScope ["_law_cell_here", "_law_salt", "_law_cells", "_law_tables", "_law_word", "_law_way", "_law_a", "_law_b", "_law_byte"] ["_law_cell_here", "_law_salt", "_law_cells", "_law_tables"] (defScope s_lsome_row) := ⟨rfl, rfl, rfl, by decide +kernel, rfl, by decide +kernel, by decide +kernel⟩
theorem v_lsome_row_0 : (defScope s_lsome_row).names.lookup ("_law_cell_here" : Str) = some NameKind.local := by decide +kernel
theorem v_lsome_row_1 : (defScope s_lsome_row).names.lookup ("_law_salt" : Str) = some NameKind.local := by decide +kernel
theorem v_lsome_row_2 : (defScope s_lsome_row).names.lookup ("_law_cells" : Str) = some NameKind.local := by decide +kernel
theorem v_lsome_row_3 : (defScope s_lsome_row).names.lookup ("_law_tables" : Str) = some NameKind.local := by decide +kernel
theorem v_lsome_row_4 : (defScope s_lsome_row).names.lookup ("_law_word" : Str) = some NameKind.local := by decide +kernel
theorem v_lsome_row_5 : (defScope s_lsome_row).names.lookup ("_law_way" : Str) = some NameKind.local := by decide +kernel
theorem v_lsome_row_6 : (defScope s_lsome_row).names.lookup ("_law_a" : Str) = some NameKind.local := by decide +kernel
theorem v_lsome_row_7 : (defScope s_lsome_row).names.lookup ("_law_b" : Str) = some NameKind.local := by decide +kernel
theorem v_lsome_row_8 : (defScope s_lsome_row).names.lookup ("_law_byte" : Str) = some NameKind.local := by decide +kernel
theorem g_lsome_row_law_draws (L a : Addr) (cd : Value) : (PyProof.Rows.envOfC "_law_some_row" (defScope s_lsome_row) L a cd).kindOf ("_law_draws" : Str) = some NameKind.globalImplicit := rfl
theorem ok_lsome_row {P : Program} {w : World} {K : PySem.W.Frag} {mg : Str → Option Value} {base : Heap} {f : Addr} {fd : FuncData} (F : Fun K "_law_some_row" "_law_some_row" s_lsome_row f fd) (B : Bn mg) (h_ldraws : Fd P w K mg base "_law_draws" 4 ["_law_cell_here", "_law_salt", "_law_widths"] [] f_ldraws)    :
    FnOk P w K mg base (L2N.CX P w) 6 f fd ["_law_cell_here", "_law_salt", "_law_cells", "_law_tables"] (spF K mg 4 [] f_lsome_row) := by
  refine fn_ok F sc_lsome_row (by decide) (by decide) fun cdv A outer s H E hr => ?_
  have nd := sc_lsome_row.nd
  have tk : L2N.Takes (cxOf (L2N.CX P w) P w K mg base ["_law_cell_here", "_law_salt", "_law_cells", "_law_tables", "_law_word", "_law_way", "_law_a", "_law_b", "_law_byte"] "_law_some_row" (defScope s_lsome_row) f cdv A outer s H E) (fun cls d _ H => E cls d H) := L2N.takes_of rfl rfl rfl rfl
  have pn : PassesOwn (model P w) (cxOf (L2N.CX P w) P w K mg base ["_law_cell_here", "_law_salt", "_law_cells", "_law_tables", "_law_word", "_law_way", "_law_a", "_law_b", "_law_byte"] "_law_some_row" (defScope s_lsome_row) f cdv A outer s H E).A (cxOf (L2N.CX P w) P w K mg base ["_law_cell_here", "_law_salt", "_law_cells", "_law_tables", "_law_word", "_law_way", "_law_a", "_law_b", "_law_byte"] "_law_some_row" (defScope s_lsome_row) f cdv A outer s H E).env (cxOf (L2N.CX P w) P w K mg base ["_law_cell_here", "_law_salt", "_law_cells", "_law_tables", "_law_word", "_law_way", "_law_a", "_law_b", "_law_byte"] "_law_some_row" (defScope s_lsome_row) f cdv A outer s H E).xe := passes_of rfl
  unfold m_lsome_row
  exact mss_cons (ms_asg (me_fz (mf_call h_ldraws hr (by decide) tk (ma_cons (me_var (i := 0) rfl (.inl v_lsome_row_0)) (ma_cons (me_var (i := 1) rfl (.inl v_lsome_row_1)) (ma_cons (me_lst (ma_cons (me_int) (ma_cons (me_int) (ma_cons (me_int) (ma_cons (me_int) (ma_nil)))))) (ma_nil)))) (lng_cons (lng_cons (lng_cons lng_nil))) (hg := (g_lsome_row_law_draws _ _ _)))) (mg_tup rfl (mgs_cons (mg_name (i := 5) nd rfl (.inl v_lsome_row_5)) (mgs_cons (mg_name (i := 6) nd rfl (.inl v_lsome_row_6)) (mgs_cons (mg_name (i := 7) nd rfl (.inl v_lsome_row_7)) (mgs_cons (mg_name (i := 8) nd rfl (.inl v_lsome_row_8)) (mgs_nil))))))) (mss_cons (ms_set (i := 4) nd rfl (.inl v_lsome_row_4) (me_ix (me_lst (ma_cons (me_str) (ma_cons (me_str) (ma_cons (me_str) (ma_cons (me_str) (ma_cons (me_str) (ma_cons (me_str) (ma_cons (me_str) (ma_cons (me_str) (ma_cons (me_str) (ma_cons (me_str) (ma_cons (me_str) (ma_cons (me_str) (ma_nil)))))))))))))) (me_var (i := 5) rfl (.inl v_lsome_row_5)))) (mss_cons (ms_if (PW.pt (mw_and (mt_cmp (op_eqM hr.units) os_eq (me_var (i := 4) rfl (.inl v_lsome_row_4)) (me_str) (nomark _)) (mw_one_and (mt_cmp (op_eqM hr.units) os_eq (me_var (i := 3) rfl (.inl v_lsome_row_3)) (me_int) (nomark _))))) (mss_one (ms_set (i := 4) nd rfl (.inl v_lsome_row_4) (me_str))) (mss_nil)) (mss_cons (ms_if (mt_cmp (op_eqM hr.units) os_eq (me_var (i := 4) rfl (.inl v_lsome_row_4)) (me_str) (nomark _)) (mss_one (ms_ret (me_tup (ma_cons (me_var (i := 4) rfl (.inl v_lsome_row_4)) (ma_cons (me_mod (me_var (i := 8) rfl (.inl v_lsome_row_8)) (me_int)) (ma_nil)))))) (mss_nil)) (mss_cons (ms_if (mt_cmp op_inM os_in (me_var (i := 4) rfl (.inl v_lsome_row_4)) (me_tup (ma_cons (me_str) (ma_cons (me_str) (ma_nil)))) rfl) (mss_one (ms_ret (me_tup (ma_cons (me_var (i := 4) rfl (.inl v_lsome_row_4)) (ma_cons (me_mod (me_var (i := 6) rfl (.inl v_lsome_row_6)) (me_var (i := 2) rfl (.inl v_lsome_row_2))) (ma_nil)))))) (mss_nil)) (mss_cons (ms_if (mt_cmp (op_eqM hr.units) os_eq (me_var (i := 4) rfl (.inl v_lsome_row_4)) (me_str) (nomark _)) (mss_one (ms_ret (me_tup (ma_cons (me_var (i := 4) rfl (.inl v_lsome_row_4)) (ma_cons (me_mod (me_var (i := 6) rfl (.inl v_lsome_row_6)) (me_var (i := 2) rfl (.inl v_lsome_row_2))) (ma_cons (me_var (i := 8) rfl (.inl v_lsome_row_8)) (ma_nil))))))) (mss_nil)) (mss_cons (ms_if (mt_cmp (op_eqM hr.units) os_eq (me_var (i := 4) rfl (.inl v_lsome_row_4)) (me_str) (nomark _)) (mss_one (ms_ret (me_tup (ma_cons (me_var (i := 4) rfl (.inl v_lsome_row_4)) (ma_cons (me_mod (me_var (i := 6) rfl (.inl v_lsome_row_6)) (me_var (i := 2) rfl (.inl v_lsome_row_2))) (ma_cons (me_mod (me_var (i := 7) rfl (.inl v_lsome_row_7)) (me_var (i := 3) rfl (.inl v_lsome_row_3))) (ma_nil))))))) (mss_nil)) (mss_one (ms_ret (me_tup (ma_cons (me_var (i := 4) rfl (.inl v_lsome_row_4)) (ma_cons (me_mod (me_var (i := 6) rfl (.inl v_lsome_row_6)) (me_var (i := 2) rfl (.inl v_lsome_row_2))) (ma_cons (me_mod (me_var (i := 7) rfl (.inl v_lsome_row_7)) (me_var (i := 2) rfl (.inl v_lsome_row_2))) (ma_nil)))))))))))))

abbrev s_lmenu : Stmt := top 39
theorem sc_lmenu : FnScope ["_law_script", "_law_at", "_law_cells", "_law_tables", "_law_rows", "_law_many", "_law_like", "_law_twice", "_law_k"] ["_law_script", "_law_at", "_law_cells", "_law_tables"] (defScope s_lmenu) := ⟨rfl, rfl, rfl, by decide +kernel, rfl, by decide +kernel, by decide +kernel⟩
theorem v_lmenu_0 : (defScope s_lmenu).names.lookup ("_law_script" : Str) = some NameKind.cell := by decide +kernel
theorem v_lmenu_1 : (defScope s_lmenu).names.lookup ("_law_at" : Str) = some NameKind.cell := by decide +kernel
theorem v_lmenu_2 : (defScope s_lmenu).names.lookup ("_law_cells" : Str) = some NameKind.cell := by decide +kernel
theorem v_lmenu_3 : (defScope s_lmenu).names.lookup ("_law_tables" : Str) = some NameKind.cell := by decide +kernel
theorem v_lmenu_4 : (defScope s_lmenu).names.lookup ("_law_rows" : Str) = some NameKind.local := by decide +kernel
theorem v_lmenu_5 : (defScope s_lmenu).names.lookup ("_law_many" : Str) = some NameKind.local := by decide +kernel
theorem v_lmenu_6 : (defScope s_lmenu).names.lookup ("_law_like" : Str) = some NameKind.local := by decide +kernel
theorem v_lmenu_7 : (defScope s_lmenu).names.lookup ("_law_twice" : Str) = some NameKind.local := by decide +kernel
theorem g_lmenu_law_cell (L a : Addr) (cd : Value) : (PyProof.Rows.envOfC "_law_menu" (defScope s_lmenu) L a cd).kindOf ("_law_cell" : Str) = some NameKind.globalImplicit := rfl
theorem g_lmenu_law_draws (L a : Addr) (cd : Value) : (PyProof.Rows.envOfC "_law_menu" (defScope s_lmenu) L a cd).kindOf ("_law_draws" : Str) = some NameKind.globalImplicit := rfl
theorem g_lmenu_range (L a : Addr) (cd : Value) : (PyProof.Rows.envOfC "_law_menu" (defScope s_lmenu) L a cd).kindOf ("range" : Str) = some NameKind.globalImplicit := rfl
theorem g_lmenu_len (L a : Addr) (cd : Value) : (PyProof.Rows.envOfC "_law_menu" (defScope s_lmenu) L a cd).kindOf ("len" : Str) = some NameKind.globalImplicit := rfl
theorem g_lmenu_tuple (L a : Addr) (cd : Value) : (PyProof.Rows.envOfC "_law_menu" (defScope s_lmenu) L a cd).kindOf ("tuple" : Str) = some NameKind.globalImplicit := rfl
theorem ok_lmenu {P : Program} {w : World} {K : PySem.W.Frag} {mg : Str → Option Value} {base : Heap} {f : Addr} {fd : FuncData} (F : Fun K "_law_menu" "_law_menu" s_lmenu f fd) (B : Bn mg) (h_ldraws : Fd P w K mg base "_law_draws" 4 ["_law_cell_here", "_law_salt", "_law_widths"] [] f_ldraws) (h_lcell : Fd P w K mg base "_law_cell" 2 ["_law_script", "_law_k"] [] f_lcell) (h_lsome_row : Fd P w K mg base "_law_some_row" 6 ["_law_cell_here", "_law_salt", "_law_cells", "_law_tables"] [] f_lsome_row)    :
    FnOk P w K mg base (L2N.CX P w) 8 f fd ["_law_script", "_law_at", "_law_cells", "_law_tables"] (spF K mg 4 [] f_lmenu) := by
  refine fn_ok F sc_lmenu (by decide) (by decide) fun cdv A outer s H E hr => ?_
  have nd := sc_lmenu.nd
  have tk : L2N.Takes (cxOf (L2N.CX P w) P w K mg base ["_law_script", "_law_at", "_law_cells", "_law_tables", "_law_rows", "_law_many", "_law_like", "_law_twice", "_law_k"] "_law_menu" (defScope s_lmenu) f cdv A outer s H E) (fun cls d _ H => E cls d H) := L2N.takes_of rfl rfl rfl rfl
  have pn : PassesOwn (model P w) (cxOf (L2N.CX P w) P w K mg base ["_law_script", "_law_at", "_law_cells", "_law_tables", "_law_rows", "_law_many", "_law_like", "_law_twice", "_law_k"] "_law_menu" (defScope s_lmenu) f cdv A outer s H E).A (cxOf (L2N.CX P w) P w K mg base ["_law_script", "_law_at", "_law_cells", "_law_tables", "_law_rows", "_law_many", "_law_like", "_law_twice", "_law_k"] "_law_menu" (defScope s_lmenu) f cdv A outer s H E).env (cxOf (L2N.CX P w) P w K mg base ["_law_script", "_law_at", "_law_cells", "_law_tables", "_law_rows", "_law_many", "_law_like", "_law_twice", "_law_k"] "_law_menu" (defScope s_lmenu) f cdv A outer s H E).xe := passes_of rfl
  unfold m_lmenu
  exact mss_cons (ms_asg (me_fz (mf_call h_ldraws hr (by decide) tk (ma_cons (me_fz (mf_call h_lcell hr (by decide) tk (ma_cons (me_var (i := 0) rfl (.inr (.inl v_lmenu_0))) (ma_cons (me_var (i := 1) rfl (.inr (.inl v_lmenu_1))) (ma_nil))) (lng_cons (lng_cons lng_nil)) (hg := (g_lmenu_law_cell _ _ _)))) (ma_cons (me_add (me_int) (me_var (i := 1) rfl (.inr (.inl v_lmenu_1)))) (ma_cons (me_lst (ma_cons (me_int) (ma_cons (me_int) (ma_cons (me_int) (ma_nil))))) (ma_nil)))) (lng_cons (lng_cons (lng_cons lng_nil))) (hg := (g_lmenu_law_draws _ _ _)))) (mg_tup rfl (mgs_cons (mg_name (i := 5) nd rfl (.inl v_lmenu_5)) (mgs_cons (mg_name (i := 6) nd rfl (.inl v_lmenu_6)) (mgs_cons (mg_name (i := 7) nd rfl (.inl v_lmenu_7)) (mgs_nil)))))) (mss_cons (ms_setLc (own := [("_law_k", 8)]) (g := .nm 8) (i := 4) rfl nd rfl v_lmenu_4 (sw_true rfl v_lmenu_4 rfl (by decide +kernel)) (mi_r1 B.range (ma_cons (me_add (me_int) (me_var (i := 5) rfl (.inl v_lmenu_5))) (ma_nil)) (hg := (g_lmenu_range _ _ _))) (blkOk_at (N' := ["_law_script", "_law_at", "_law_cells", "_law_tables", "_law_rows", "_law_many", "_law_like", "_law_twice", "_law_k"]) (sc' := defScope s_lmenu) rfl rfl (by decide +kernel)) (fun _ _ _ _ _ => pg_name (i := 8) nd rfl (Or.inl rfl)) (fun _ _ _ _ _ => mts_nil) (fun _ _ _ _ _ => me_fz (mf_call0 h_lsome_row hr (by decide) (ma_cons (me_fz (mf_call0 h_lcell hr (by decide) (ma_cons (me_var (i := 0) rfl (by first | exact .inr (.inr rfl) | exact .inl rfl | exact .inr (.inl rfl))) (ma_cons (me_add (me_add (me_var (i := 1) rfl (by first | exact .inr (.inr rfl) | exact .inl rfl | exact .inr (.inl rfl))) (me_int)) (me_var (i := 8) rfl (.inl rfl))) (ma_nil))) (lng_cons (lng_cons lng_nil)) (hg := rfl))) (ma_cons (me_add (me_int) (me_mul (me_int) (me_var (i := 8) rfl (.inl rfl)))) (ma_cons (me_var (i := 2) rfl (by first | exact .inr (.inr rfl) | exact .inl rfl | exact .inr (.inl rfl))) (ma_cons (me_var (i := 3) rfl (by first | exact .inr (.inr rfl) | exact .inl rfl | exact .inr (.inl rfl))) (ma_nil))))) (lng_cons (lng_cons (lng_cons (lng_cons lng_nil)))) (hg := rfl))) (hbs := hbs_of rfl)) (mss_cons (ms_if (mt_cmp (op_eqM hr.units) os_eq (me_var (i := 6) rfl (.inl v_lmenu_6)) (me_int) (nomark _)) (mss_one (ms_setIx (i := 4) rfl (.inl v_lmenu_4) (me_ixV (i := 4) rfl (.inl v_lmenu_4) (me_int)) (me_mod (me_var (i := 7) rfl (.inl v_lmenu_7)) (me_lenV B.len (i := 4) rfl (.inl v_lmenu_4) (hg := (g_lmenu_len _ _ _)))))) (mss_nil)) (mss_one (ms_ret (mb_tuple B.tuple (ma_cons (me_var (i := 4) rfl (.inl v_lmenu_4)) (ma_nil)) (hg := (g_lmenu_tuple _ _ _)))))))

abbrev s_lstarts : Stmt := top 40
theorem sc_lstarts : FnScope ["_law_script", "_law_at", "_law_cells", "_law_found", "_law_k", "_law_many", "_law_way", "_law_first", "_law_second", "_law_third", "_law_drawn", "_law_edges", "_law_byte"] ["_law_script", "_law_at", "_law_cells"] (defScope s_lstarts) := ⟨rfl, rfl, rfl, by decide +kernel, rfl, by decide +kernel, by decide +kernel⟩
theorem v_lstarts_0 : (defScope s_lstarts).names.lookup ("_law_script" : Str) = some NameKind.local := by decide +kernel
theorem v_lstarts_1 : (defScope s_lstarts).names.lookup ("_law_at" : Str) = some NameKind.local := by decide +kernel
theorem v_lstarts_2 : (defScope s_lstarts).names.lookup ("_law_cells" : Str) = some NameKind.local := by decide +kernel
theorem v_lstarts_3 : (defScope s_lstarts).names.lookup ("_law_found" : Str) = some NameKind.local := by decide +kernel
theorem v_lstarts_4 : (defScope s_lstarts).names.lookup ("_law_k" : Str) = some NameKind.local := by decide +kernel
theorem v_lstarts_5 : (defScope s_lstarts).names.lookup ("_law_many" : Str) = some NameKind.local := by decide +kernel
theorem v_lstarts_6 : (defScope s_lstarts).names.lookup ("_law_way" : Str) = some NameKind.local := by decide +kernel
theorem v_lstarts_7 : (defScope s_lstarts).names.lookup ("_law_first" : Str) = some NameKind.local := by decide +kernel
theorem v_lstarts_8 : (defScope s_lstarts).names.lookup ("_law_second" : Str) = some NameKind.local := by decide +kernel
theorem v_lstarts_9 : (defScope s_lstarts).names.lookup ("_law_third" : Str) = some NameKind.local := by decide +kernel
theorem v_lstarts_10 : (defScope s_lstarts).names.lookup ("_law_drawn" : Str) = some NameKind.local := by decide +kernel
theorem v_lstarts_11 : (defScope s_lstarts).names.lookup ("_law_edges" : Str) = some NameKind.cell := by decide +kernel
theorem g_lstarts_law_cell (L a : Addr) (cd : Value) : (PyProof.Rows.envOfC "_law_starts" (defScope s_lstarts) L a cd).kindOf ("_law_cell" : Str) = some NameKind.globalImplicit := rfl
theorem g_lstarts_law_draws (L a : Addr) (cd : Value) : (PyProof.Rows.envOfC "_law_starts" (defScope s_lstarts) L a cd).kindOf ("_law_draws" : Str) = some NameKind.globalImplicit := rfl
theorem g_lstarts_range (L a : Addr) (cd : Value) : (PyProof.Rows.envOfC "_law_starts" (defScope s_lstarts) L a cd).kindOf ("range" : Str) = some NameKind.globalImplicit := rfl
theorem g_lstarts_int (L a : Addr) (cd : Value) : (PyProof.Rows.envOfC "_law_starts" (defScope s_lstarts) L a cd).kindOf ("int" : Str) = some NameKind.globalImplicit := rfl
theorem g_lstarts_tuple (L a : Addr) (cd : Value) : (PyProof.Rows.envOfC "_law_starts" (defScope s_lstarts) L a cd).kindOf ("tuple" : Str) = some NameKind.globalImplicit := rfl
theorem ok_lstarts {P : Program} {w : World} {K : PySem.W.Frag} {mg : Str → Option Value} {base : Heap} {f : Addr} {fd : FuncData} (F : Fun K "_law_starts" "_law_starts" s_lstarts f fd) (B : Bn mg) (h_ldraws : Fd P w K mg base "_law_draws" 4 ["_law_cell_here", "_law_salt", "_law_widths"] [] f_ldraws) (h_lcell : Fd P w K mg base "_law_cell" 2 ["_law_script", "_law_k"] [] f_lcell)    :
    FnOk P w K mg base (L2N.CX P w) 6 f fd ["_law_script", "_law_at", "_law_cells"] (spF K mg 3 [] f_lstarts) := by
  refine fn_ok F sc_lstarts (by decide) (by decide) fun cdv A outer s H E hr => ?_
  have nd := sc_lstarts.nd
  have tk : L2N.Takes (cxOf (L2N.CX P w) P w K mg base ["_law_script", "_law_at", "_law_cells", "_law_found", "_law_k", "_law_many", "_law_way", "_law_first", "_law_second", "_law_third", "_law_drawn", "_law_edges", "_law_byte"] "_law_starts" (defScope s_lstarts) f cdv A outer s H E) (fun cls d _ H => E cls d H) := L2N.takes_of rfl rfl rfl rfl
  have pn : PassesOwn (model P w) (cxOf (L2N.CX P w) P w K mg base ["_law_script", "_law_at", "_law_cells", "_law_found", "_law_k", "_law_many", "_law_way", "_law_first", "_law_second", "_law_third", "_law_drawn", "_law_edges", "_law_byte"] "_law_starts" (defScope s_lstarts) f cdv A outer s H E).A (cxOf (L2N.CX P w) P w K mg base ["_law_script", "_law_at", "_law_cells", "_law_found", "_law_k", "_law_many", "_law_way", "_law_first", "_law_second", "_law_third", "_law_drawn", "_law_edges", "_law_byte"] "_law_starts" (defScope s_lstarts) f cdv A outer s H E).env (cxOf (L2N.CX P w) P w K mg base ["_law_script", "_law_at", "_law_cells", "_law_found", "_law_k", "_law_many", "_law_way", "_law_first", "_law_second", "_law_third", "_law_drawn", "_law_edges", "_law_byte"] "_law_starts" (defScope s_lstarts) f cdv A outer s H E).xe := passes_of rfl
  unfold m_lstarts
  exact mss_cons (ms_asg (me_fz (mf_call h_ldraws hr (by decide) tk (ma_cons (me_fz (mf_call h_lcell hr (by decide) tk (ma_cons (me_var (i := 0) rfl (.inl v_lstarts_0)) (ma_cons (me_var (i := 1) rfl (.inl v_lstarts_1)) (ma_nil))) (lng_cons (lng_cons lng_nil)) (hg := (g_lstarts_law_cell _ _ _)))) (ma_cons (me_add (me_int) (me_var (i := 1) rfl (.inl v_lstarts_1))) (ma_cons (me_lst (ma_cons (me_int) (ma_cons (me_int) (ma_cons (me_int) (ma_cons (me_int) (ma_cons (me_int) (ma_nil))))))) (ma_nil)))) (lng_cons (lng_cons (lng_cons lng_nil))) (hg := (g_lstarts_law_draws _ _ _)))) (mg_tup rfl (mgs_cons (mg_name (i := 5) nd rfl (.inl v_lstarts_5)) (mgs_cons (mg_name (i := 6) nd rfl (.inl v_lstarts_6)) (mgs_cons (mg_name (i := 7) nd rfl (.inl v_lstarts_7)) (mgs_cons (mg_name (i := 8) nd rfl (.inl v_lstarts_8)) (mgs_cons (mg_name (i := 9) nd rfl (.inl v_lstarts_9)) (mgs_nil)))))))) (mss_cons (ms_setO (i := 3) nd rfl (.inl v_lstarts_3) (mo_lst (ma_nil))) (mss_cons (ms_for pn rfl (mi_r1 B.range (ma_cons (me_add (me_int) (me_var (i := 5) rfl (.inl v_lstarts_5))) (ma_nil)) (hg := (g_lstarts_range _ _ _))) (mg_name (i := 4) nd rfl (.inl v_lstarts_4)) (mss_cons (ms_set (i := 10) nd rfl (.inl v_lstarts_10) (me_fz (mf_call h_ldraws hr (by decide) tk (ma_cons (me_add (me_fz (mf_call h_lcell hr (by decide) tk (ma_cons (me_var (i := 0) rfl (.inl v_lstarts_0)) (ma_cons (me_add (me_var (i := 1) rfl (.inl v_lstarts_1)) (me_int)) (ma_nil))) (lng_cons (lng_cons lng_nil)) (hg := (g_lstarts_law_cell _ _ _)))) (me_mul (me_mul (me_int) (me_var (i := 4) rfl (.inl v_lstarts_4))) (mb_int B.int (ma_cons (me_cmp op_lt os_lt (me_var (i := 6) rfl (.inl v_lstarts_6)) (me_int) (nomark _)) (ma_nil)) (hg := (g_lstarts_int _ _ _))))) (ma_cons (me_add (me_int) (me_var (i := 4) rfl (.inl v_lstarts_4))) (ma_cons (me_add (me_lst (ma_cons (me_int) (ma_nil))) (me_mul (me_lst (ma_cons (me_int) (ma_nil))) (me_var (i := 2) rfl (.inl v_lstarts_2)))) (ma_nil)))) (lng_cons (lng_cons (lng_cons lng_nil))) (hg := (g_lstarts_law_draws _ _ _))))) (mss_cons (ms_if (mt_cmp (op_eqM hr.units) os_eq (me_var (i := 6) rfl (.inl v_lstarts_6)) (me_int) (nomark _)) (mss_cons (ms_set (i := 11) nd rfl (.inr v_lstarts_11) (me_lst (ma_cons (me_int) (ma_cons (me_int) (ma_cons (me_int) (ma_cons (me_int) (ma_cons (me_int) (ma_cons (me_var (i := 7) rfl (.inl v_lstarts_7)) (ma_cons (me_var (i := 8) rfl (.inl v_lstarts_8)) (ma_cons (me_var (i := 9) rfl (.inl v_lstarts_9)) (ma_nil))))))))))) (mss_one (ms_set (i := 10) nd rfl (.inl v_lstarts_10) (me_add (me_lst (ma_cons (me_ix (me_var (i := 10) rfl (.inl v_lstarts_10)) (me_int)) (ma_nil))) (me_fz (mo_lc (own := [("_law_byte", 12)]) (g := .nm 12) rfl nd (mi_val (me_sl (me_var (i := 10) rfl (.inl v_lstarts_10)) (mp_some (me_int)) (mp_none))) (blkOk_at (N' := ["_law_script", "_law_at", "_law_cells", "_law_found", "_law_k", "_law_many", "_law_way", "_law_first", "_law_second", "_law_third", "_law_drawn", "_law_edges", "_law_byte"]) (sc' := defScope s_lstarts) rfl rfl (by decide +kernel)) (fun _ _ _ _ _ => pg_name (i := 12) nd rfl (Or.inl rfl)) (fun _ _ _ _ _ => mts_nil) (fun _ _ _ _ _ => me_ix (me_var (i := 11) rfl (by first | exact .inr (.inr rfl) | exact .inl rfl | exact .inr (.inl rfl))) (me_mod (me_var (i := 12) rfl (.inl rfl)) (me_int))) (hbs := hbs_of rfl))))))) (mss_nil)) (mss_one (ms_expr (me_lm1 ls_append PySem.F.slot_list_append PySem.F.type_list_append mt_append (i := 3) rfl (.inl v_lstarts_3) (ma_cons (me_tup (ma_cons (mb_tuple B.tuple (ma_cons (me_sl (me_var (i := 10) rfl (.inl v_lstarts_10)) (mp_some (me_int)) (mp_none)) (ma_nil)) (hg := (g_lstarts_tuple _ _ _))) (ma_cons (me_ix (me_var (i := 10) rfl (.inl v_lstarts_10)) (me_int)) (ma_nil)))) (ma_nil)))))))) (mss_one (ms_ret (mb_tuple B.tuple (ma_cons (me_var (i := 3) rfl (.inl v_lstarts_3)) (ma_nil)) (hg := (g_lstarts_tuple _ _ _)))))))

abbrev s_lall_words : Stmt := top 43
theorem sc_lall_words : FnScope ["_law_many", "_law_most", "_law_found", "_law_layer", "_law_turn", "_law_longer", "_law_word", "_law_number"] ["_law_many", "_law_most"] (defScope s_lall_words) := ⟨rfl, rfl, rfl, by decide +kernel, rfl, by decide +kernel, by decide +kernel⟩
theorem v_lall_words_0 : (defScope s_lall_words).names.lookup ("_law_many" : Str) = some NameKind.local := by decide +kernel
theorem v_lall_words_1 : (defScope s_lall_words).names.lookup ("_law_most" : Str) = some NameKind.local := by decide +kernel
theorem v_lall_words_2 : (defScope s_lall_words).names.lookup ("_law_found" : Str) = some NameKind.local := by decide +kernel
theorem v_lall_words_3 : (defScope s_lall_words).names.lookup ("_law_layer" : Str) = some NameKind.local := by decide +kernel
theorem v_lall_words_4 : (defScope s_lall_words).names.lookup ("_law_turn" : Str) = some NameKind.local := by decide +kernel
theorem v_lall_words_5 : (defScope s_lall_words).names.lookup ("_law_longer" : Str) = some NameKind.local := by decide +kernel
theorem v_lall_words_6 : (defScope s_lall_words).names.lookup ("_law_word" : Str) = some NameKind.cell := by decide +kernel
theorem g_lall_words_range (L a : Addr) (cd : Value) : (PyProof.Rows.envOfC "_law_all_words" (defScope s_lall_words) L a cd).kindOf ("range" : Str) = some NameKind.globalImplicit := rfl
theorem ok_lall_words {P : Program} {w : World} {K : PySem.W.Frag} {mg : Str → Option Value} {base : Heap} {f : Addr} {fd : FuncData} (F : Fun K "_law_all_words" "_law_all_words" s_lall_words f fd) (B : Bn mg)     :
    FnOk P w K mg base (L2N.CX P w) 2 f fd ["_law_many", "_law_most"] (spF K mg 2 [] f_lall_words) := by
  refine fn_ok F sc_lall_words (by decide) (by decide) fun cdv A outer s H E hr => ?_
  have nd := sc_lall_words.nd
  have tk : L2N.Takes (cxOf (L2N.CX P w) P w K mg base ["_law_many", "_law_most", "_law_found", "_law_layer", "_law_turn", "_law_longer", "_law_word", "_law_number"] "_law_all_words" (defScope s_lall_words) f cdv A outer s H E) (fun cls d _ H => E cls d H) := L2N.takes_of rfl rfl rfl rfl
  have pn : PassesOwn (model P w) (cxOf (L2N.CX P w) P w K mg base ["_law_many", "_law_most", "_law_found", "_law_layer", "_law_turn", "_law_longer", "_law_word", "_law_number"] "_law_all_words" (defScope s_lall_words) f cdv A outer s H E).A (cxOf (L2N.CX P w) P w K mg base ["_law_many", "_law_most", "_law_found", "_law_layer", "_law_turn", "_law_longer", "_law_word", "_law_number"] "_law_all_words" (defScope s_lall_words) f cdv A outer s H E).env (cxOf (L2N.CX P w) P w K mg base ["_law_many", "_law_most", "_law_found", "_law_layer", "_law_turn", "_law_longer", "_law_word", "_law_number"] "_law_all_words" (defScope s_lall_words) f cdv A outer s H E).xe := passes_of rfl
  unfold m_lall_words
  exact mss_cons (ms_set (i := 2) nd rfl (.inl v_lall_words_2) (me_lst (ma_cons (me_tup (ma_nil)) (ma_nil)))) (mss_cons (ms_set (i := 3) nd rfl (.inl v_lall_words_3) (me_lst (ma_cons (me_tup (ma_nil)) (ma_nil)))) (mss_cons (ms_for pn rfl (mi_r1 B.range (ma_cons (me_var (i := 1) rfl (.inl v_lall_words_1)) (ma_nil)) (hg := (g_lall_words_range _ _ _))) (mg_name (i := 4) nd rfl (.inl v_lall_words_4)) (mss_cons (ms_setO (i := 5) nd rfl (.inl v_lall_words_5) (mo_lst (ma_nil))) (mss_cons (ms_for pn rfl (mi_val (me_var (i := 3) rfl (.inl v_lall_words_3))) (mg_name (i := 6) nd rfl (.inr v_lall_words_6)) (mss_one (ms_expr (me_lm1 ls_extend PySem.F.slot_list_extend PySem.F.type_list_extend mt_extend (i := 5) rfl (.inl v_lall_words_5) (ma_cons (me_fz (mo_lc (own := [("_law_number", 7)]) (g := .nm 7) rfl nd (mi_r1 B.range (ma_cons (me_var (i := 0) rfl (.inl v_lall_words_0)) (ma_nil)) (hg := (g_lall_words_range _ _ _))) (blkOk_at (N' := ["_law_many", "_law_most", "_law_found", "_law_layer", "_law_turn", "_law_longer", "_law_word", "_law_number"]) (sc' := defScope s_lall_words) rfl rfl (by decide +kernel)) (fun _ _ _ _ _ => pg_name (i := 7) nd rfl (Or.inl rfl)) (fun _ _ _ _ _ => mts_nil) (fun _ _ _ _ _ => me_add (me_var (i := 6) rfl (by first | exact .inr (.inr rfl) | exact .inl rfl | exact .inr (.inl rfl))) (me_tup (ma_cons (me_var (i := 7) rfl (.inl rfl)) (ma_nil)))) (hbs := hbs_of rfl))) (ma_nil)))))) (mss_cons (ms_set (i := 3) nd rfl (.inl v_lall_words_3) (me_var (i := 5) rfl (.inl v_lall_words_5))) (mss_one (ms_set (i := 2) nd rfl (.inl v_lall_words_2) (me_add (me_var (i := 2) rfl (.inl v_lall_words_2)) (me_var (i := 3) rfl (.inl v_lall_words_3))))))))) (mss_one (ms_ret (me_var (i := 2) rfl (.inl v_lall_words_2))))))

abbrev s_lone_each : Stmt := top 44
theorem sc_lone_each : FnScope ["_law_pairs", "_law_turn", "_law_words", "_law_found", "_law_word", "_law_state", "_law_some"] ["_law_pairs", "_law_turn"] (defScope s_lone_each) := ⟨rfl, rfl, rfl, by decide +kernel, rfl, by decide +kernel, by decide +kernel⟩
theorem v_lone_each_0 : (defScope s_lone_each).names.lookup ("_law_pairs" : Str) = some NameKind.local := by decide +kernel
theorem v_lone_each_1 : (defScope s_lone_each).names.lookup ("_law_turn" : Str) = some NameKind.local := by decide +kernel
theorem v_lone_each_2 : (defScope s_lone_each).names.lookup ("_law_words" : Str) = some NameKind.local := by decide +kernel
theorem v_lone_each_3 : (defScope s_lone_each).names.lookup ("_law_found" : Str) = some NameKind.local := by decide +kernel
theorem v_lone_each_4 : (defScope s_lone_each).names.lookup ("_law_word" : Str) = some NameKind.local := by decide +kernel
theorem v_lone_each_5 : (defScope s_lone_each).names.lookup ("_law_state" : Str) = some NameKind.local := by decide +kernel
theorem v_lone_each_6 : (defScope s_lone_each).names.lookup ("_law_some" : Str) = some NameKind.local := by decide +kernel
theorem g_lone_each_len (L a : Addr) (cd : Value) : (PyProof.Rows.envOfC "_law_one_each" (defScope s_lone_each) L a cd).kindOf ("len" : Str) = some NameKind.globalImplicit := rfl
theorem ok_lone_each {P : Program} {w : World} {K : PySem.W.Frag} {mg : Str → Option Value} {base : Heap} {f : Addr} {fd : FuncData} (F : Fun K "_law_one_each" "_law_one_each" s_lone_each f fd) (B : Bn mg)     :
    FnOk P w K mg base (L2N.CX P w) 2 f fd ["_law_pairs", "_law_turn"] (spF K mg 2 [] f_lone_each) := by
  refine fn_ok F sc_lone_each (by decide) (by decide) fun cdv A outer s H E hr => ?_
  have nd := sc_lone_each.nd
  have tk : L2N.Takes (cxOf (L2N.CX P w) P w K mg base ["_law_pairs", "_law_turn", "_law_words", "_law_found", "_law_word", "_law_state", "_law_some"] "_law_one_each" (defScope s_lone_each) f cdv A outer s H E) (fun cls d _ H => E cls d H) := L2N.takes_of rfl rfl rfl rfl
  have pn : PassesOwn (model P w) (cxOf (L2N.CX P w) P w K mg base ["_law_pairs", "_law_turn", "_law_words", "_law_found", "_law_word", "_law_state", "_law_some"] "_law_one_each" (defScope s_lone_each) f cdv A outer s H E).A (cxOf (L2N.CX P w) P w K mg base ["_law_pairs", "_law_turn", "_law_words", "_law_found", "_law_word", "_law_state", "_law_some"] "_law_one_each" (defScope s_lone_each) f cdv A outer s H E).env (cxOf (L2N.CX P w) P w K mg base ["_law_pairs", "_law_turn", "_law_words", "_law_found", "_law_word", "_law_state", "_law_some"] "_law_one_each" (defScope s_lone_each) f cdv A outer s H E).xe := passes_of rfl
  unfold m_lone_each
  exact mss_cons (ms_setO (i := 2) nd rfl (.inl v_lone_each_2) (mo_dn0)) (mss_cons (ms_for pn rfl (mi_val (me_var (i := 0) rfl (.inl v_lone_each_0))) (mg_tup rfl (mgs_cons (mg_name (i := 4) nd rfl (.inl v_lone_each_4)) (mgs_cons (mg_name (i := 5) nd rfl (.inl v_lone_each_5)) (mgs_nil)))) (mss_one (ms_setN hr.units (i := 2) rfl (.inl v_lone_each_2) (me_add (me_getN2 hr.units (i := 2) rfl (.inl v_lone_each_2) (me_tup (ma_cons (mb_len B.len (ma_cons (me_var (i := 4) rfl (.inl v_lone_each_4)) (ma_nil)) (hg := (g_lone_each_len _ _ _))) (ma_cons (me_var (i := 5) rfl (.inl v_lone_each_5)) (ma_nil)))) (me_lst (ma_nil)) ⟨rfl, rfl, rfl, rfl⟩) (me_lst (ma_cons (me_var (i := 4) rfl (.inl v_lone_each_4)) (ma_nil)))) (me_tup (ma_cons (mb_len B.len (ma_cons (me_var (i := 4) rfl (.inl v_lone_each_4)) (ma_nil)) (hg := (g_lone_each_len _ _ _))) (ma_cons (me_var (i := 5) rfl (.inl v_lone_each_5)) (ma_nil))))))) (mss_cons (ms_setO (i := 3) nd rfl (.inl v_lone_each_3) (mo_lst (ma_nil))) (mss_cons (ms_for pn rfl (mi_val (me_var (i := 0) rfl (.inl v_lone_each_0))) (mg_tup rfl (mgs_cons (mg_name (i := 4) nd rfl (.inl v_lone_each_4)) (mgs_cons (mg_name (i := 5) nd rfl (.inl v_lone_each_5)) (mgs_nil)))) (mss_cons (ms_set (i := 6) nd rfl (.inl v_lone_each_6) (me_ixN hr.units (i := 2) rfl (.inl v_lone_each_2) (me_tup (ma_cons (mb_len B.len (ma_cons (me_var (i := 4) rfl (.inl v_lone_each_4)) (ma_nil)) (hg := (g_lone_each_len _ _ _))) (ma_cons (me_var (i := 5) rfl (.inl v_lone_each_5)) (ma_nil)))))) (mss_one (ms_if (mt_cmp (op_eqM hr.units) os_eq (me_ix (me_var (i := 6) rfl (.inl v_lone_each_6)) (me_mod (me_var (i := 1) rfl (.inl v_lone_each_1)) (mb_len B.len (ma_cons (me_var (i := 6) rfl (.inl v_lone_each_6)) (ma_nil)) (hg := (g_lone_each_len _ _ _))))) (me_var (i := 4) rfl (.inl v_lone_each_4)) (nomark _)) (mss_one (ms_expr (me_lm1 ls_append PySem.F.slot_list_append PySem.F.type_list_append mt_append (i := 3) rfl (.inl v_lone_each_3) (ma_cons (me_tup (ma_cons (me_var (i := 4) rfl (.inl v_lone_each_4)) (ma_cons (me_var (i := 5) rfl (.inl v_lone_each_5)) (ma_nil)))) (ma_nil))))) (mss_nil))))) (mss_one (ms_retO (mo_var (i := 3) rfl (.inl v_lone_each_3)))))))

abbrev s_pstarts_of : Stmt := top 25
theorem sc_pstarts_of : FnScope ["cases", "case"] ["cases"] (defScope s_pstarts_of) := ⟨rfl, rfl, rfl, by decide +kernel, rfl, by decide +kernel, by decide +kernel⟩
theorem v_pstarts_of_0 : (defScope s_pstarts_of).names.lookup ("cases" : Str) = some NameKind.local := by decide +kernel
theorem g_pstarts_of_tuple (L a : Addr) (cd : Value) : (PyProof.Rows.envOfC "starts_of" (defScope s_pstarts_of) L a cd).kindOf ("tuple" : Str) = some NameKind.globalImplicit := rfl
theorem ok_pstarts_of {P : Program} {w : World} {K : PySem.W.Frag} {mg : Str → Option Value} {base : Heap} {f : Addr} {fd : FuncData} (F : Fun K "starts_of" "starts_of" s_pstarts_of f fd) (B : Bn mg)     :
    FnOk P w K mg base (L2N.CX P w) 2 f fd ["cases"] (spF K mg 1 [] f_pstarts_of) := by
  refine fn_ok F sc_pstarts_of (by decide) (by decide) fun cdv A outer s H E hr => ?_
  have nd := sc_pstarts_of.nd
  have tk : L2N.Takes (cxOf (L2N.CX P w) P w K mg base ["cases", "case"] "starts_of" (defScope s_pstarts_of) f cdv A outer s H E) (fun cls d _ H => E cls d H) := L2N.takes_of rfl rfl rfl rfl
  have pn : PassesOwn (model P w) (cxOf (L2N.CX P w) P w K mg base ["cases", "case"] "starts_of" (defScope s_pstarts_of) f cdv A outer s H E).A (cxOf (L2N.CX P w) P w K mg base ["cases", "case"] "starts_of" (defScope s_pstarts_of) f cdv A outer s H E).env (cxOf (L2N.CX P w) P w K mg base ["cases", "case"] "starts_of" (defScope s_pstarts_of) f cdv A outer s H E).xe := passes_of rfl
  unfold m_pstarts_of
  exact mss_one (ms_ret (mb_tuple B.tuple (ma_cons (me_fz (mo_lc (own := [("case", 1)]) (g := .nm 1) rfl nd (mi_val (me_var (i := 0) rfl (.inl v_pstarts_of_0))) (blkOk_at (N' := ["cases", "case"]) (sc' := defScope s_pstarts_of) rfl rfl (by decide +kernel)) (fun _ _ _ _ _ => pg_name (i := 1) nd rfl (Or.inl rfl)) (fun _ _ _ _ _ => mts_nil) (fun _ _ _ _ _ => me_tup (ma_cons (me_ix (me_var (i := 1) rfl (.inl rfl)) (me_int)) (ma_cons (me_ix (me_var (i := 1) rfl (.inl rfl)) (me_int)) (ma_nil)))) (hbs := hbs_of rfl))) (ma_nil)) (hg := (g_pstarts_of_tuple _ _ _))))

abbrev s_pis_table : Stmt := top 14
theorem sc_pis_table : FnScope ["numbers", "number"] ["numbers"] (defScope s_pis_table) := ⟨rfl, rfl, rfl, by decide +kernel, rfl, by decide +kernel, by decide +kernel⟩
theorem v_pis_table_0 : (defScope s_pis_table).names.lookup ("numbers" : Str) = some NameKind.local := by decide +kernel
theorem g_pis_table_len (L a : Addr) (cd : Value) : (PyProof.Rows.envOfC "is_table" (defScope s_pis_table) L a cd).kindOf ("len" : Str) = some NameKind.globalImplicit := rfl
theorem g_pis_table_BYTES (L a : Addr) (cd : Value) : (PyProof.Rows.envOfC "is_table" (defScope s_pis_table) L a cd).kindOf ("BYTES" : Str) = some NameKind.globalImplicit := rfl
theorem g_pis_table_all (L a : Addr) (cd : Value) : (PyProof.Rows.envOfC "is_table" (defScope s_pis_table) L a cd).kindOf ("all" : Str) = some NameKind.globalImplicit := rfl
theorem ok_pis_table {P : Program} {w : World} {K : PySem.W.Frag} {mg : Str → Option Value} {base : Heap} {f : Addr} {fd : FuncData} (F : Fun K "is_table" "is_table" s_pis_table f fd) (B : Bn mg)    (c_BYTES : Cst K mg "BYTES" (.int 256)) :
    FnOk P w K mg base (L2N.CX P w) 2 f fd ["numbers"] (spF K mg 1 [] f_pis_table) := by
  refine fn_ok F sc_pis_table (by decide) (by decide) fun cdv A outer s H E hr => ?_
  have nd := sc_pis_table.nd
  have tk : L2N.Takes (cxOf (L2N.CX P w) P w K mg base ["numbers", "number"] "is_table" (defScope s_pis_table) f cdv A outer s H E) (fun cls d _ H => E cls d H) := L2N.takes_of rfl rfl rfl rfl
  have pn : PassesOwn (model P w) (cxOf (L2N.CX P w) P w K mg base ["numbers", "number"] "is_table" (defScope s_pis_table) f cdv A outer s H E).A (cxOf (L2N.CX P w) P w K mg base ["numbers", "number"] "is_table" (defScope s_pis_table) f cdv A outer s H E).env (cxOf (L2N.CX P w) P w K mg base ["numbers", "number"] "is_table" (defScope s_pis_table) f cdv A outer s H E).xe := passes_of rfl
  unfold m_pis_table
  exact mss_one (ms_ret (me_and (me_cmp (op_eqM hr.units) os_eq (mb_len B.len (ma_cons (me_var (i := 0) rfl (.inl v_pis_table_0)) (ma_nil)) (hg := (g_pis_table_len _ _ _))) (mf_con c_BYTES (hg := (g_pis_table_BYTES _ _ _))) (nomark _)) (me_one (mb_all rfl B.all (ma_cons (me_fz (mo_lc (own := [("number", 1)]) (g := .nm 1) rfl nd (mi_val (me_var (i := 0) rfl (.inl v_pis_table_0))) (blkOk_at (N' := ["numbers", "number"]) (sc' := defScope s_pis_table) rfl rfl (by decide +kernel)) (fun _ _ _ _ _ => pg_name (i := 1) nd rfl (Or.inl rfl)) (fun _ _ _ _ _ => mts_nil) (fun _ _ _ _ _ => me_chain op_le os_le op_lt os_lt (me_int) (me_var (i := 1) rfl (.inl rfl)) (mf_con c_BYTES (hg := rfl))) (hbs := hbs_of rfl))) (ma_nil)) (hg := (g_pis_table_all _ _ _))))))

abbrev s_pparts_due : Stmt := top 12
theorem sc_pparts_due : FnScope ["word"] ["word"] (defScope s_pparts_due) := ⟨rfl, rfl, rfl, by decide +kernel, rfl, by decide +kernel, by decide +kernel⟩
theorem v_pparts_due_0 : (defScope s_pparts_due).names.lookup ("word" : Str) = some NameKind.local := by decide +kernel
theorem g_pparts_due_OTHER_PARTS (L a : Addr) (cd : Value) : (PyProof.Rows.envOfC "parts_due" (defScope s_pparts_due) L a cd).kindOf ("OTHER_PARTS" : Str) = some NameKind.globalImplicit := rfl
theorem g_pparts_due_PARTS (L a : Addr) (cd : Value) : (PyProof.Rows.envOfC "parts_due" (defScope s_pparts_due) L a cd).kindOf ("PARTS" : Str) = some NameKind.globalImplicit := rfl
theorem ok_pparts_due {P : Program} {w : World} {K : PySem.W.Frag} {mg : Str → Option Value} {base : Heap} {f : Addr} {fd : FuncData} (F : Fun K "parts_due" "parts_due" s_pparts_due f fd) (B : Bn mg)    (c_OTHER_PARTS : DCst K w mg "OTHER_PARTS" [("look", (.str "ct")), ("mark", (.str "m"))]) (c_PARTS : DCst K w mg "PARTS" [("put", (.str "cb")), ("copy", (.str "cc")), ("add", (.str "cc")), ("addc", (.str "cc")), ("and", (.str "cc")), ("or", (.str "cc")), ("left", (.str "c")), ("right", (.str "c"))]) :
    FnOk P w K mg base (L2N.CX P w) 2 f fd ["word"] (spF K mg 1 [] f_pparts_due) := by
  refine fn_ok F sc_pparts_due (by decide) (by decide) fun cdv A outer s H E hr => ?_
  have nd := sc_pparts_due.nd
  have tk : L2N.Takes (cxOf (L2N.CX P w) P w K mg base ["word"] "parts_due" (defScope s_pparts_due) f cdv A outer s H E) (fun cls d _ H => E cls d H) := L2N.takes_of rfl rfl rfl rfl
  have pn : PassesOwn (model P w) (cxOf (L2N.CX P w) P w K mg base ["word"] "parts_due" (defScope s_pparts_due) f cdv A outer s H E).A (cxOf (L2N.CX P w) P w K mg base ["word"] "parts_due" (defScope s_pparts_due) f cdv A outer s H E).env (cxOf (L2N.CX P w) P w K mg base ["word"] "parts_due" (defScope s_pparts_due) f cdv A outer s H E).xe := passes_of rfl
  unfold m_pparts_due
  exact mss_cons (ms_if (mt_kin c_OTHER_PARTS (me_var (i := 0) rfl (.inl v_pparts_due_0)) (hg := (g_pparts_due_OTHER_PARTS _ _ _))) (mss_one (ms_ret (me_kix c_OTHER_PARTS (me_var (i := 0) rfl (.inl v_pparts_due_0)) (hg := (g_pparts_due_OTHER_PARTS _ _ _))))) (mss_nil)) (mss_one (ms_ret (me_kget c_PARTS (me_var (i := 0) rfl (.inl v_pparts_due_0)) ⟨rfl, rfl, rfl, rfl⟩ (hg := (g_pparts_due_PARTS _ _ _)))))

abbrev s_pis_row : Stmt := top 13
theorem sc_pis_row : FnScope ["row", "cells", "tables", "due", "bounds", "number", "kind"] ["row", "cells", "tables"] (defScope s_pis_row) := ⟨rfl, rfl, rfl, by decide +kernel, rfl, by decide +kernel, by decide +kernel⟩
theorem v_pis_row_0 : (defScope s_pis_row).names.lookup ("row" : Str) = some NameKind.local := by decide +kernel
theorem v_pis_row_1 : (defScope s_pis_row).names.lookup ("cells" : Str) = some NameKind.local := by decide +kernel
theorem v_pis_row_2 : (defScope s_pis_row).names.lookup ("tables" : Str) = some NameKind.local := by decide +kernel
theorem v_pis_row_3 : (defScope s_pis_row).names.lookup ("due" : Str) = some NameKind.local := by decide +kernel
theorem v_pis_row_4 : (defScope s_pis_row).names.lookup ("bounds" : Str) = some NameKind.cell := by decide +kernel
theorem g_pis_row_parts_due (L a : Addr) (cd : Value) : (PyProof.Rows.envOfC "is_row" (defScope s_pis_row) L a cd).kindOf ("parts_due" : Str) = some NameKind.globalImplicit := rfl
theorem g_pis_row_len (L a : Addr) (cd : Value) : (PyProof.Rows.envOfC "is_row" (defScope s_pis_row) L a cd).kindOf ("len" : Str) = some NameKind.globalImplicit := rfl
theorem g_pis_row_BYTES (L a : Addr) (cd : Value) : (PyProof.Rows.envOfC "is_row" (defScope s_pis_row) L a cd).kindOf ("BYTES" : Str) = some NameKind.globalImplicit := rfl
theorem g_pis_row_zip (L a : Addr) (cd : Value) : (PyProof.Rows.envOfC "is_row" (defScope s_pis_row) L a cd).kindOf ("zip" : Str) = some NameKind.globalImplicit := rfl
theorem g_pis_row_all (L a : Addr) (cd : Value) : (PyProof.Rows.envOfC "is_row" (defScope s_pis_row) L a cd).kindOf ("all" : Str) = some NameKind.globalImplicit := rfl
theorem ok_pis_row {P : Program} {w : World} {K : PySem.W.Frag} {mg : Str → Option Value} {base : Heap} {f : Addr} {fd : FuncData} (F : Fun K "is_row" "is_row" s_pis_row f fd) (B : Bn mg) (h_pparts_due : Fd P w K mg base "parts_due" 2 ["word"] [] f_pparts_due)   (c_BYTES : Cst K mg "BYTES" (.int 256)) :
    FnOk P w K mg base (L2N.CX P w) 4 f fd ["row", "cells", "tables"] (spF K mg 3 [] f_pis_row) := by
  refine fn_ok F sc_pis_row (by decide) (by decide) fun cdv A outer s H E hr => ?_
  have nd := sc_pis_row.nd
  have tk : L2N.Takes (cxOf (L2N.CX P w) P w K mg base ["row", "cells", "tables", "due", "bounds", "number", "kind"] "is_row" (defScope s_pis_row) f cdv A outer s H E) (fun cls d _ H => E cls d H) := L2N.takes_of rfl rfl rfl rfl
  have pn : PassesOwn (model P w) (cxOf (L2N.CX P w) P w K mg base ["row", "cells", "tables", "due", "bounds", "number", "kind"] "is_row" (defScope s_pis_row) f cdv A outer s H E).A (cxOf (L2N.CX P w) P w K mg base ["row", "cells", "tables", "due", "bounds", "number", "kind"] "is_row" (defScope s_pis_row) f cdv A outer s H E).env (cxOf (L2N.CX P w) P w K mg base ["row", "cells", "tables", "due", "bounds", "number", "kind"] "is_row" (defScope s_pis_row) f cdv A outer s H E).xe := passes_of rfl
  unfold m_pis_row
  exact mss_cons (ms_set (i := 3) nd rfl (.inl v_pis_row_3) (me_fz (mf_call h_pparts_due hr (by decide) tk (ma_cons (me_ix (me_var (i := 0) rfl (.inl v_pis_row_0)) (me_int)) (ma_nil)) (lng_cons lng_nil) (hg := (g_pis_row_parts_due _ _ _))))) (mss_cons (ms_if (PW.pt (mw_or (mt_cmp op_isN os_isN (me_var (i := 3) rfl (.inl v_pis_row_3)) (me_non) (nomark _)) (mw_one_or (mt_cmp (op_neM hr.units) os_ne (mb_len B.len (ma_cons (me_var (i := 0) rfl (.inl v_pis_row_0)) (ma_nil)) (hg := (g_pis_row_len _ _ _))) (me_add (me_int) (mb_len B.len (ma_cons (me_var (i := 3) rfl (.inl v_pis_row_3)) (ma_nil)) (hg := (g_pis_row_len _ _ _)))) (nomark _))))) (mss_one (ms_ret (me_bl))) (mss_nil)) (mss_cons (ms_set (i := 4) nd rfl (.inr v_pis_row_4) (me_dict (dp_str (me_var (i := 1) rfl (.inl v_pis_row_1)) (dp_str (mf_con c_BYTES (hg := (g_pis_row_BYTES _ _ _))) (dp_str (me_var (i := 2) rfl (.inl v_pis_row_2)) (dp_str (me_int) (dp_nil))))))) (mss_one (ms_ret (mb_all rfl B.all (ma_cons (me_fz (mo_lc (own := [("number", 5), ("kind", 6)]) (g := .tp [5, 6]) rfl nd (mi_zip B.zip (ma_cons (me_sl (me_var (i := 0) rfl (.inl v_pis_row_0)) (mp_some (me_int)) (mp_none)) (ma_cons (me_var (i := 3) rfl (.inl v_pis_row_3)) (ma_nil))) (hg := (g_pis_row_zip _ _ _))) (blkOk_at (N' := ["row", "cells", "tables", "due", "bounds", "number", "kind"]) (sc' := defScope s_pis_row) rfl rfl (by decide +kernel)) (fun _ _ _ _ _ => pg_tup rfl (pgs_cons (pg_name (i := 5) nd rfl (Or.inl rfl)) (pgs_cons (pg_name (i := 6) nd rfl (Or.inl rfl)) (pgs_nil)))) (fun _ _ _ _ _ => mts_nil) (fun _ _ _ _ _ => me_chain op_le os_le op_lt os_lt (me_int) (me_var (i := 5) rfl (.inl rfl)) (me_dix hr.units (me_var (i := 4) rfl (by first | exact .inr (.inr rfl) | exact .inl rfl | exact .inr (.inl rfl))) (me_var (i := 6) rfl (.inl rfl)))) (hbs := hbs_of rfl))) (ma_nil)) (hg := (g_pis_row_all _ _ _)))))))

abbrev s_phold_program : Stmt := top 15
theorem sc_phold_program : FnScope ["program", "cells", "tables", "rows", "at", "numbers", "row"] ["program", "cells"] (defScope s_phold_program) := ⟨rfl, rfl, rfl, by decide +kernel, rfl, by decide +kernel, by decide +kernel⟩
theorem v_phold_program_0 : (defScope s_phold_program).names.lookup ("program" : Str) = some NameKind.local := by decide +kernel
theorem v_phold_program_1 : (defScope s_phold_program).names.lookup ("cells" : Str) = some NameKind.local := by decide +kernel
theorem v_phold_program_2 : (defScope s_phold_program).names.lookup ("tables" : Str) = some NameKind.local := by decide +kernel
theorem v_phold_program_3 : (defScope s_phold_program).names.lookup ("rows" : Str) = some NameKind.local := by decide +kernel
theorem v_phold_program_4 : (defScope s_phold_program).names.lookup ("at" : Str) = some NameKind.local := by decide +kernel
theorem v_phold_program_5 : (defScope s_phold_program).names.lookup ("numbers" : Str) = some NameKind.local := by decide +kernel
theorem v_phold_program_6 : (defScope s_phold_program).names.lookup ("row" : Str) = some NameKind.local := by decide +kernel
theorem g_phold_program_enumerate (L a : Addr) (cd : Value) : (PyProof.Rows.envOfC "hold_program" (defScope s_phold_program) L a cd).kindOf ("enumerate" : Str) = some NameKind.globalImplicit := rfl
theorem g_phold_program_MOST_TABLES (L a : Addr) (cd : Value) : (PyProof.Rows.envOfC "hold_program" (defScope s_phold_program) L a cd).kindOf ("MOST_TABLES" : Str) = some NameKind.globalImplicit := rfl
theorem g_phold_program_is_table (L a : Addr) (cd : Value) : (PyProof.Rows.envOfC "hold_program" (defScope s_phold_program) L a cd).kindOf ("is_table" : Str) = some NameKind.globalImplicit := rfl
theorem g_phold_program_NoTable (L a : Addr) (cd : Value) : (PyProof.Rows.envOfC "hold_program" (defScope s_phold_program) L a cd).kindOf ("NoTable" : Str) = some NameKind.globalImplicit := rfl
theorem g_phold_program_MOST_ROWS (L a : Addr) (cd : Value) : (PyProof.Rows.envOfC "hold_program" (defScope s_phold_program) L a cd).kindOf ("MOST_ROWS" : Str) = some NameKind.globalImplicit := rfl
theorem g_phold_program_len (L a : Addr) (cd : Value) : (PyProof.Rows.envOfC "hold_program" (defScope s_phold_program) L a cd).kindOf ("len" : Str) = some NameKind.globalImplicit := rfl
theorem g_phold_program_is_row (L a : Addr) (cd : Value) : (PyProof.Rows.envOfC "hold_program" (defScope s_phold_program) L a cd).kindOf ("is_row" : Str) = some NameKind.globalImplicit := rfl
theorem g_phold_program_NoRow (L a : Addr) (cd : Value) : (PyProof.Rows.envOfC "hold_program" (defScope s_phold_program) L a cd).kindOf ("NoRow" : Str) = some NameKind.globalImplicit := rfl
theorem ok_phold_program {P : Program} {w : World} {K : PySem.W.Frag} {mg : Str → Option Value} {base : Heap} {f : Addr} {fd : FuncData} (F : Fun K "hold_program" "hold_program" s_phold_program f fd) (B : Bn mg) (h_pis_table : Fd P w K mg base "is_table" 2 ["numbers"] [] f_pis_table) (h_pis_row : Fd P w K mg base "is_row" 4 ["row", "cells", "tables"] [] f_pis_row)  (xcl1_NoTable_at : Cl1 P w K mg base "NoTable" "at") (xcl1_NoRow_at : Cl1 P w K mg base "NoRow" "at") (c_MOST_TABLES : Cst K mg "MOST_TABLES" (.int 16)) (c_MOST_ROWS : Cst K mg "MOST_ROWS" (.int 9000)) :
    FnOk P w K mg base (L2N.CX P w) 6 f fd ["program", "cells"] (spF K mg 2 [] f_phold_program) := by
  refine fn_ok F sc_phold_program (by decide) (by decide) fun cdv A outer s H E hr => ?_
  have nd := sc_phold_program.nd
  have tk : L2N.Takes (cxOf (L2N.CX P w) P w K mg base ["program", "cells", "tables", "rows", "at", "numbers", "row"] "hold_program" (defScope s_phold_program) f cdv A outer s H E) (fun cls d _ H => E cls d H) := L2N.takes_of rfl rfl rfl rfl
  have pn : PassesOwn (model P w) (cxOf (L2N.CX P w) P w K mg base ["program", "cells", "tables", "rows", "at", "numbers", "row"] "hold_program" (defScope s_phold_program) f cdv A outer s H E).A (cxOf (L2N.CX P w) P w K mg base ["program", "cells", "tables", "rows", "at", "numbers", "row"] "hold_program" (defScope s_phold_program) f cdv A outer s H E).env (cxOf (L2N.CX P w) P w K mg base ["program", "cells", "tables", "rows", "at", "numbers", "row"] "hold_program" (defScope s_phold_program) f cdv A outer s H E).xe := passes_of rfl
  unfold m_phold_program
  exact mss_cons (ms_asg (me_var (i := 0) rfl (.inl v_phold_program_0)) (mg_tup rfl (mgs_cons (mg_name (i := 2) nd rfl (.inl v_phold_program_2)) (mgs_cons (mg_name (i := 3) nd rfl (.inl v_phold_program_3)) (mgs_nil))))) (mss_cons (ms_for pn rfl (mi_enumT B.enumerate (ma_cons (me_var (i := 2) rfl (.inl v_phold_program_2)) (ma_nil)) (hg := (g_phold_program_enumerate _ _ _))) (mg_tup rfl (mgs_cons (mg_name (i := 4) nd rfl (.inl v_phold_program_4)) (mgs_cons (mg_name (i := 5) nd rfl (.inl v_phold_program_5)) (mgs_nil)))) (mss_one (ms_if (PW.pt (mw_or (mt_cmp (op_eqM hr.units) os_eq (me_var (i := 4) rfl (.inl v_phold_program_4)) (mf_con c_MOST_TABLES (hg := (g_phold_program_MOST_TABLES _ _ _))) (nomark _)) (mw_one_or (mt_not (mt_val (me_fz (mf_call h_pis_table hr (by decide) tk (ma_cons (me_var (i := 5) rfl (.inl v_phold_program_5)) (ma_nil)) (lng_cons lng_nil) (hg := (g_phold_program_is_table _ _ _))))))))) (mss_one (ms_raise1 xcl1_NoTable_at rfl hr (by decide) tk (g_phold_program_NoTable _ _ _) (me_var (i := 4) rfl (.inl v_phold_program_4)))) (mss_nil)))) (mss_one (ms_for pn rfl (mi_enumT B.enumerate (ma_cons (me_var (i := 3) rfl (.inl v_phold_program_3)) (ma_nil)) (hg := (g_phold_program_enumerate _ _ _))) (mg_tup rfl (mgs_cons (mg_name (i := 4) nd rfl (.inl v_phold_program_4)) (mgs_cons (mg_name (i := 6) nd rfl (.inl v_phold_program_6)) (mgs_nil)))) (mss_one (ms_if (PW.pt (mw_or (mt_cmp (op_eqM hr.units) os_eq (me_var (i := 4) rfl (.inl v_phold_program_4)) (mf_con c_MOST_ROWS (hg := (g_phold_program_MOST_ROWS _ _ _))) (nomark _)) (mw_one_or (mt_not (mt_val (me_fz (mf_call h_pis_row hr (by decide) tk (ma_cons (me_var (i := 6) rfl (.inl v_phold_program_6)) (ma_cons (me_var (i := 1) rfl (.inl v_phold_program_1)) (ma_cons (mb_len B.len (ma_cons (me_var (i := 2) rfl (.inl v_phold_program_2)) (ma_nil)) (hg := (g_phold_program_len _ _ _))) (ma_nil)))) (lng_cons (lng_cons (lng_cons lng_nil))) (hg := (g_phold_program_is_row _ _ _))))))))) (mss_one (ms_raise1 xcl1_NoRow_at rfl hr (by decide) tk (g_phold_program_NoRow _ _ _) (me_var (i := 4) rfl (.inl v_phold_program_4)))) (mss_nil))))))

abbrev s_pheld_menu : Stmt := top 20
theorem sc_pheld_menu : FnScope ["tables", "menu", "starts"] ["tables", "menu", "starts"] (defScope s_pheld_menu) := ⟨rfl, rfl, rfl, by decide +kernel, rfl, by decide +kernel, by decide +kernel⟩
theorem v_pheld_menu_0 : (defScope s_pheld_menu).names.lookup ("tables" : Str) = some NameKind.local := by decide +kernel
theorem v_pheld_menu_1 : (defScope s_pheld_menu).names.lookup ("menu" : Str) = some NameKind.local := by decide +kernel
theorem v_pheld_menu_2 : (defScope s_pheld_menu).names.lookup ("starts" : Str) = some NameKind.local := by decide +kernel
theorem g_pheld_menu_len (L a : Addr) (cd : Value) : (PyProof.Rows.envOfC "held_menu" (defScope s_pheld_menu) L a cd).kindOf ("len" : Str) = some NameKind.globalImplicit := rfl
theorem g_pheld_menu_hold_program (L a : Addr) (cd : Value) : (PyProof.Rows.envOfC "held_menu" (defScope s_pheld_menu) L a cd).kindOf ("hold_program" : Str) = some NameKind.globalImplicit := rfl
theorem ok_pheld_menu {P : Program} {w : World} {K : PySem.W.Frag} {mg : Str → Option Value} {base : Heap} {f : Addr} {fd : FuncData} (F : Fun K "held_menu" "held_menu" s_pheld_menu f fd) (B : Bn mg) (h_phold_program : Fd P w K mg base "hold_program" 6 ["program", "cells"] [] f_phold_program)    :
    FnOk P w K mg base (L2N.CX P w) 8 f fd ["tables", "menu", "starts"] (spF K mg 3 [] f_pheld_menu) := by
  refine fn_ok F sc_pheld_menu (by decide) (by decide) fun cdv A outer s H E hr => ?_
  have nd := sc_pheld_menu.nd
  have tk : L2N.Takes (cxOf (L2N.CX P w) P w K mg base ["tables", "menu", "starts"] "held_menu" (defScope s_pheld_menu) f cdv A outer s H E) (fun cls d _ H => E cls d H) := L2N.takes_of rfl rfl rfl rfl
  have pn : PassesOwn (model P w) (cxOf (L2N.CX P w) P w K mg base ["tables", "menu", "starts"] "held_menu" (defScope s_pheld_menu) f cdv A outer s H E).A (cxOf (L2N.CX P w) P w K mg base ["tables", "menu", "starts"] "held_menu" (defScope s_pheld_menu) f cdv A outer s H E).env (cxOf (L2N.CX P w) P w K mg base ["tables", "menu", "starts"] "held_menu" (defScope s_pheld_menu) f cdv A outer s H E).xe := passes_of rfl
  unfold m_pheld_menu
  exact mss_one (ms_expr (me_fz (mf_call h_phold_program hr (by decide) tk (ma_cons (me_tup (ma_cons (me_var (i := 0) rfl (.inl v_pheld_menu_0)) (ma_cons (me_var (i := 1) rfl (.inl v_pheld_menu_1)) (ma_nil)))) (ma_cons (mb_len B.len (ma_cons (me_ix (me_ix (me_var (i := 2) rfl (.inl v_pheld_menu_2)) (me_int)) (me_int)) (ma_nil)) (hg := (g_pheld_menu_len _ _ _))) (ma_nil))) (lng_cons (lng_cons lng_nil)) (hg := (g_pheld_menu_hold_program _ _ _)))))

abbrev s_pshift_step : Stmt := top 17
theorem sc_pshift_step : FnScope ["word", "cells", "one", "mark", "byte"] ["word", "cells", "one", "mark"] (defScope s_pshift_step) := ⟨rfl, rfl, rfl, by decide +kernel, rfl, by decide +kernel, by decide +kernel⟩
theorem v_pshift_step_0 : (defScope s_pshift_step).names.lookup ("word" : Str) = some NameKind.local := by decide +kernel
theorem v_pshift_step_1 : (defScope s_pshift_step).names.lookup ("cells" : Str) = some NameKind.local := by decide +kernel
theorem v_pshift_step_2 : (defScope s_pshift_step).names.lookup ("one" : Str) = some NameKind.local := by decide +kernel
theorem v_pshift_step_3 : (defScope s_pshift_step).names.lookup ("mark" : Str) = some NameKind.local := by decide +kernel
theorem v_pshift_step_4 : (defScope s_pshift_step).names.lookup ("byte" : Str) = some NameKind.local := by decide +kernel
theorem g_pshift_step_BYTES (L a : Addr) (cd : Value) : (PyProof.Rows.envOfC "shift_step" (defScope s_pshift_step) L a cd).kindOf ("BYTES" : Str) = some NameKind.globalImplicit := rfl
theorem ok_pshift_step {P : Program} {w : World} {K : PySem.W.Frag} {mg : Str → Option Value} {base : Heap} {f : Addr} {fd : FuncData} (F : Fun K "shift_step" "shift_step" s_pshift_step f fd) (B : Bn mg)    (c_BYTES : Cst K mg "BYTES" (.int 256)) :
    FnOk P w K mg base (L2N.CX P w) 2 f fd ["word", "cells", "one", "mark"] (spF K mg 4 [1] f_pshift_step) := by
  refine fn_ok F sc_pshift_step (by decide) (by decide) fun cdv A outer s H E hr => ?_
  have nd := sc_pshift_step.nd
  have tk : L2N.Takes (cxOf (L2N.CX P w) P w K mg base ["word", "cells", "one", "mark", "byte"] "shift_step" (defScope s_pshift_step) f cdv A outer s H E) (fun cls d _ H => E cls d H) := L2N.takes_of rfl rfl rfl rfl
  have pn : PassesOwn (model P w) (cxOf (L2N.CX P w) P w K mg base ["word", "cells", "one", "mark", "byte"] "shift_step" (defScope s_pshift_step) f cdv A outer s H E).A (cxOf (L2N.CX P w) P w K mg base ["word", "cells", "one", "mark", "byte"] "shift_step" (defScope s_pshift_step) f cdv A outer s H E).env (cxOf (L2N.CX P w) P w K mg base ["word", "cells", "one", "mark", "byte"] "shift_step" (defScope s_pshift_step) f cdv A outer s H E).xe := passes_of rfl
  unfold m_pshift_step
  exact mss_cons (ms_set (i := 4) nd rfl (.inl v_pshift_step_4) (me_ixV (i := 1) rfl (.inl v_pshift_step_1) (me_var (i := 2) rfl (.inl v_pshift_step_2)))) (mss_cons (ms_if (mt_cmp (op_eqM hr.units) os_eq (me_var (i := 0) rfl (.inl v_pshift_step_0)) (me_str) (nomark _)) (mss_cons (ms_setIx (i := 1) rfl (.inl v_pshift_step_1) (me_mod (me_add (me_mul (me_int) (me_var (i := 4) rfl (.inl v_pshift_step_4))) (me_var (i := 3) rfl (.inl v_pshift_step_3))) (mf_con c_BYTES (hg := (g_pshift_step_BYTES _ _ _)))) (me_var (i := 2) rfl (.inl v_pshift_step_2))) (mss_one (ms_ret (me_div (me_var (i := 4) rfl (.inl v_pshift_step_4)) (me_int))))) (mss_nil)) (mss_cons (ms_setIx (i := 1) rfl (.inl v_pshift_step_1) (me_add (me_div (me_var (i := 4) rfl (.inl v_pshift_step_4)) (me_int)) (me_mul (me_int) (me_var (i := 3) rfl (.inl v_pshift_step_3)))) (me_var (i := 2) rfl (.inl v_pshift_step_2))) (mss_one (ms_ret (me_mod (me_var (i := 4) rfl (.inl v_pshift_step_4)) (me_int))))))

abbrev s_psum_step : Stmt := top 16
theorem sc_psum_step : FnScope ["word", "cells", "one", "other", "mark", "total"] ["word", "cells", "one", "other", "mark"] (defScope s_psum_step) := ⟨rfl, rfl, rfl, by decide +kernel, rfl, by decide +kernel, by decide +kernel⟩
theorem v_psum_step_0 : (defScope s_psum_step).names.lookup ("word" : Str) = some NameKind.local := by decide +kernel
theorem v_psum_step_1 : (defScope s_psum_step).names.lookup ("cells" : Str) = some NameKind.local := by decide +kernel
theorem v_psum_step_2 : (defScope s_psum_step).names.lookup ("one" : Str) = some NameKind.local := by decide +kernel
theorem v_psum_step_3 : (defScope s_psum_step).names.lookup ("other" : Str) = some NameKind.local := by decide +kernel
theorem v_psum_step_4 : (defScope s_psum_step).names.lookup ("mark" : Str) = some NameKind.local := by decide +kernel
theorem v_psum_step_5 : (defScope s_psum_step).names.lookup ("total" : Str) = some NameKind.local := by decide +kernel
theorem g_psum_step_BYTES (L a : Addr) (cd : Value) : (PyProof.Rows.envOfC "sum_step" (defScope s_psum_step) L a cd).kindOf ("BYTES" : Str) = some NameKind.globalImplicit := rfl
theorem ok_psum_step {P : Program} {w : World} {K : PySem.W.Frag} {mg : Str → Option Value} {base : Heap} {f : Addr} {fd : FuncData} (F : Fun K "sum_step" "sum_step" s_psum_step f fd) (B : Bn mg)    (c_BYTES : Cst K mg "BYTES" (.int 256)) :
    FnOk P w K mg base (L2N.CX P w) 2 f fd ["word", "cells", "one", "other", "mark"] (spF K mg 5 [1] f_psum_step) := by
  refine fn_ok F sc_psum_step (by decide) (by decide) fun cdv A outer s H E hr => ?_
  have nd := sc_psum_step.nd
  have tk : L2N.Takes (cxOf (L2N.CX P w) P w K mg base ["word", "cells", "one", "other", "mark", "total"] "sum_step" (defScope s_psum_step) f cdv A outer s H E) (fun cls d _ H => E cls d H) := L2N.takes_of rfl rfl rfl rfl
  have pn : PassesOwn (model P w) (cxOf (L2N.CX P w) P w K mg base ["word", "cells", "one", "other", "mark", "total"] "sum_step" (defScope s_psum_step) f cdv A outer s H E).A (cxOf (L2N.CX P w) P w K mg base ["word", "cells", "one", "other", "mark", "total"] "sum_step" (defScope s_psum_step) f cdv A outer s H E).env (cxOf (L2N.CX P w) P w K mg base ["word", "cells", "one", "other", "mark", "total"] "sum_step" (defScope s_psum_step) f cdv A outer s H E).xe := passes_of rfl
  unfold m_psum_step
  exact mss_cons (ms_set (i := 5) nd rfl (.inl v_psum_step_5) (me_add (me_ixV (i := 1) rfl (.inl v_psum_step_1) (me_var (i := 2) rfl (.inl v_psum_step_2))) (me_ixV (i := 1) rfl (.inl v_psum_step_1) (me_var (i := 3) rfl (.inl v_psum_step_3))))) (mss_cons (ms_if (mt_cmp (op_eqM hr.units) os_eq (me_var (i := 0) rfl (.inl v_psum_step_0)) (me_str) (nomark _)) (mss_one (ms_augAdd (i := 5) nd rfl (.inl v_psum_step_5) (me_var (i := 4) rfl (.inl v_psum_step_4)))) (mss_nil)) (mss_cons (ms_setIx (i := 1) rfl (.inl v_psum_step_1) (me_mod (me_var (i := 5) rfl (.inl v_psum_step_5)) (mf_con c_BYTES (hg := (g_psum_step_BYTES _ _ _)))) (me_var (i := 2) rfl (.inl v_psum_step_2))) (mss_one (ms_ret (me_div (me_var (i := 5) rfl (.inl v_psum_step_5)) (mf_con c_BYTES (hg := (g_psum_step_BYTES _ _ _))))))))

abbrev s_pstep : Stmt := top 18
theorem sc_pstep : FnScope ["tables", "row", "cells", "mark", "word", "one", "other"] ["tables", "row", "cells", "mark"] (defScope s_pstep) := ⟨rfl, rfl, rfl, by decide +kernel, rfl, by decide +kernel, by decide +kernel⟩
theorem v_pstep_0 : (defScope s_pstep).names.lookup ("tables" : Str) = some NameKind.local := by decide +kernel
theorem v_pstep_1 : (defScope s_pstep).names.lookup ("row" : Str) = some NameKind.local := by decide +kernel
theorem v_pstep_2 : (defScope s_pstep).names.lookup ("cells" : Str) = some NameKind.local := by decide +kernel
theorem v_pstep_3 : (defScope s_pstep).names.lookup ("mark" : Str) = some NameKind.local := by decide +kernel
theorem v_pstep_4 : (defScope s_pstep).names.lookup ("word" : Str) = some NameKind.local := by decide +kernel
theorem v_pstep_5 : (defScope s_pstep).names.lookup ("one" : Str) = some NameKind.local := by decide +kernel
theorem v_pstep_6 : (defScope s_pstep).names.lookup ("other" : Str) = some NameKind.local := by decide +kernel
theorem g_pstep_shift_step (L a : Addr) (cd : Value) : (PyProof.Rows.envOfC "step" (defScope s_pstep) L a cd).kindOf ("shift_step" : Str) = some NameKind.globalImplicit := rfl
theorem g_pstep_sum_step (L a : Addr) (cd : Value) : (PyProof.Rows.envOfC "step" (defScope s_pstep) L a cd).kindOf ("sum_step" : Str) = some NameKind.globalImplicit := rfl
theorem ok_pstep {P : Program} {w : World} {K : PySem.W.Frag} {mg : Str → Option Value} {base : Heap} {f : Addr} {fd : FuncData} (F : Fun K "step" "step" s_pstep f fd) (B : Bn mg) (h_pshift_step : Fd P w K mg base "shift_step" 2 ["word", "cells", "one", "mark"] [1] f_pshift_step) (h_psum_step : Fd P w K mg base "sum_step" 2 ["word", "cells", "one", "other", "mark"] [1] f_psum_step)    :
    FnOk P w K mg base (L2N.CX P w) 4 f fd ["tables", "row", "cells", "mark"] (spF K mg 4 [2] f_pstep) := by
  refine fn_ok F sc_pstep (by decide) (by decide) fun cdv A outer s H E hr => ?_
  have nd := sc_pstep.nd
  have tk : L2N.Takes (cxOf (L2N.CX P w) P w K mg base ["tables", "row", "cells", "mark", "word", "one", "other"] "step" (defScope s_pstep) f cdv A outer s H E) (fun cls d _ H => E cls d H) := L2N.takes_of rfl rfl rfl rfl
  have pn : PassesOwn (model P w) (cxOf (L2N.CX P w) P w K mg base ["tables", "row", "cells", "mark", "word", "one", "other"] "step" (defScope s_pstep) f cdv A outer s H E).A (cxOf (L2N.CX P w) P w K mg base ["tables", "row", "cells", "mark", "word", "one", "other"] "step" (defScope s_pstep) f cdv A outer s H E).env (cxOf (L2N.CX P w) P w K mg base ["tables", "row", "cells", "mark", "word", "one", "other"] "step" (defScope s_pstep) f cdv A outer s H E).xe := passes_of rfl
  unfold m_pstep
  exact mss_cons (ms_set (i := 4) nd rfl (.inl v_pstep_4) (me_ix (me_var (i := 1) rfl (.inl v_pstep_1)) (me_int))) (mss_cons (ms_if (mt_cmp (op_eqM hr.units) os_eq (me_var (i := 4) rfl (.inl v_pstep_4)) (me_str) (nomark _)) (mss_one (ms_ret (me_ix (me_var (i := 1) rfl (.inl v_pstep_1)) (me_int)))) (mss_nil)) (mss_cons (ms_if (mt_cmp op_inM os_in (me_var (i := 4) rfl (.inl v_pstep_4)) (me_tup (ma_cons (me_str) (ma_cons (me_str) (ma_nil)))) rfl) (mss_one (ms_ret (me_fz (mf_callB h_pshift_step hr (by decide) tk (pb_v (me_var (i := 4) rfl (.inl v_pstep_4)) (pb_b (i := 2) rfl (.inl v_pstep_2) (pb_v (me_ix (me_var (i := 1) rfl (.inl v_pstep_1)) (me_int)) (pb_v (me_var (i := 3) rfl (.inl v_pstep_3)) (pb_nil))))) (bsh_v (bsh_b (bsh_v (bsh_v (bsh_nil))))) (hg := (g_pstep_shift_step _ _ _)))))) (mss_nil)) (mss_cons (ms_asg (me_sl (me_var (i := 1) rfl (.inl v_pstep_1)) (mp_some (me_int)) (mp_none)) (mg_tup rfl (mgs_cons (mg_name (i := 5) nd rfl (.inl v_pstep_5)) (mgs_cons (mg_name (i := 6) nd rfl (.inl v_pstep_6)) (mgs_nil))))) (mss_cons (ms_if (mt_cmp op_inM os_in (me_var (i := 4) rfl (.inl v_pstep_4)) (me_tup (ma_cons (me_str) (ma_cons (me_str) (ma_nil)))) rfl) (mss_one (ms_ret (me_fz (mf_callB h_psum_step hr (by decide) tk (pb_v (me_var (i := 4) rfl (.inl v_pstep_4)) (pb_b (i := 2) rfl (.inl v_pstep_2) (pb_v (me_var (i := 5) rfl (.inl v_pstep_5)) (pb_v (me_var (i := 6) rfl (.inl v_pstep_6)) (pb_v (me_var (i := 3) rfl (.inl v_pstep_3)) (pb_nil)))))) (bsh_v (bsh_b (bsh_v (bsh_v (bsh_v (bsh_nil)))))) (hg := (g_pstep_sum_step _ _ _)))))) (mss_nil)) (mss_cons (ms_if (mt_cmp (op_eqM hr.units) os_eq (me_var (i := 4) rfl (.inl v_pstep_4)) (me_str) (nomark _)) (mss_one (ms_setIx (i := 2) rfl (.inl v_pstep_2) (me_var (i := 6) rfl (.inl v_pstep_6)) (me_var (i := 5) rfl (.inl v_pstep_5)))) (mss_one (ms_if (mt_cmp (op_eqM hr.units) os_eq (me_var (i := 4) rfl (.inl v_pstep_4)) (me_str) (nomark _)) (mss_one (ms_setIx (i := 2) rfl (.inl v_pstep_2) (me_ixV (i := 2) rfl (.inl v_pstep_2) (me_var (i := 6) rfl (.inl v_pstep_6))) (me_var (i := 5) rfl (.inl v_pstep_5)))) (mss_one (ms_if (mt_cmp (op_eqM hr.units) os_eq (me_var (i := 4) rfl (.inl v_pstep_4)) (me_str) (nomark _)) (mss_one (ms_setIx (i := 2) rfl (.inl v_pstep_2) (me_bitand (me_ixV (i := 2) rfl (.inl v_pstep_2) (me_var (i := 5) rfl (.inl v_pstep_5))) (me_ixV (i := 2) rfl (.inl v_pstep_2) (me_var (i := 6) rfl (.inl v_pstep_6)))) (me_var (i := 5) rfl (.inl v_pstep_5)))) (mss_one (ms_if (mt_cmp (op_eqM hr.units) os_eq (me_var (i := 4) rfl (.inl v_pstep_4)) (me_str) (nomark _)) (mss_one (ms_setIx (i := 2) rfl (.inl v_pstep_2) (me_bitor (me_ixV (i := 2) rfl (.inl v_pstep_2) (me_var (i := 5) rfl (.inl v_pstep_5))) (me_ixV (i := 2) rfl (.inl v_pstep_2) (me_var (i := 6) rfl (.inl v_pstep_6)))) (me_var (i := 5) rfl (.inl v_pstep_5)))) (mss_one (ms_setIx (i := 2) rfl (.inl v_pstep_2) (me_ix (me_ix (me_var (i := 0) rfl (.inl v_pstep_0)) (me_var (i := 6) rfl (.inl v_pstep_6))) (me_ixV (i := 2) rfl (.inl v_pstep_2) (me_var (i := 5) rfl (.inl v_pstep_5)))) (me_var (i := 5) rfl (.inl v_pstep_5))))))))))) (mss_one (ms_ret (me_var (i := 3) rfl (.inl v_pstep_3)))))))))

abbrev s_pbehind_row : Stmt := top 21
theorem sc_pbehind_row : FnScope ["tables", "row", "state", "found", "cells", "mark", "bytes_there"] ["tables", "row", "state"] (defScope s_pbehind_row) := ⟨rfl, rfl, rfl, by decide +kernel, rfl, by decide +kernel, by decide +kernel⟩
theorem v_pbehind_row_0 : (defScope s_pbehind_row).names.lookup ("tables" : Str) = some NameKind.local := by decide +kernel
theorem v_pbehind_row_1 : (defScope s_pbehind_row).names.lookup ("row" : Str) = some NameKind.local := by decide +kernel
theorem v_pbehind_row_2 : (defScope s_pbehind_row).names.lookup ("state" : Str) = some NameKind.local := by decide +kernel
theorem v_pbehind_row_3 : (defScope s_pbehind_row).names.lookup ("found" : Str) = some NameKind.local := by decide +kernel
theorem v_pbehind_row_4 : (defScope s_pbehind_row).names.lookup ("cells" : Str) = some NameKind.local := by decide +kernel
theorem v_pbehind_row_5 : (defScope s_pbehind_row).names.lookup ("mark" : Str) = some NameKind.local := by decide +kernel
theorem v_pbehind_row_6 : (defScope s_pbehind_row).names.lookup ("bytes_there" : Str) = some NameKind.local := by decide +kernel
theorem g_pbehind_row_list (L a : Addr) (cd : Value) : (PyProof.Rows.envOfC "behind_row" (defScope s_pbehind_row) L a cd).kindOf ("list" : Str) = some NameKind.globalImplicit := rfl
theorem g_pbehind_row_step (L a : Addr) (cd : Value) : (PyProof.Rows.envOfC "behind_row" (defScope s_pbehind_row) L a cd).kindOf ("step" : Str) = some NameKind.globalImplicit := rfl
theorem g_pbehind_row_tuple (L a : Addr) (cd : Value) : (PyProof.Rows.envOfC "behind_row" (defScope s_pbehind_row) L a cd).kindOf ("tuple" : Str) = some NameKind.globalImplicit := rfl
theorem ok_pbehind_row {P : Program} {w : World} {K : PySem.W.Frag} {mg : Str → Option Value} {base : Heap} {f : Addr} {fd : FuncData} (F : Fun K "behind_row" "behind_row" s_pbehind_row f fd) (B : Bn mg) (h_pstep : Fd P w K mg base "step" 4 ["tables", "row", "cells", "mark"] [2] f_pstep)    :
    FnOk P w K mg base (L2N.CX P w) 6 f fd ["tables", "row", "state"] (spF K mg 3 [] f_pbehind_row) := by
  refine fn_ok F sc_pbehind_row (by decide) (by decide) fun cdv A outer s H E hr => ?_
  have nd := sc_pbehind_row.nd
  have tk : L2N.Takes (cxOf (L2N.CX P w) P w K mg base ["tables", "row", "state", "found", "cells", "mark", "bytes_there"] "behind_row" (defScope s_pbehind_row) f cdv A outer s H E) (fun cls d _ H => E cls d H) := L2N.takes_of rfl rfl rfl rfl
  have pn : PassesOwn (model P w) (cxOf (L2N.CX P w) P w K mg base ["tables", "row", "state", "found", "cells", "mark", "bytes_there"] "behind_row" (defScope s_pbehind_row) f cdv A outer s H E).A (cxOf (L2N.CX P w) P w K mg base ["tables", "row", "state", "found", "cells", "mark", "bytes_there"] "behind_row" (defScope s_pbehind_row) f cdv A outer s H E).env (cxOf (L2N.CX P w) P w K mg base ["tables", "row", "state", "found", "cells", "mark", "bytes_there"] "behind_row" (defScope s_pbehind_row) f cdv A outer s H E).xe := passes_of rfl
  unfold m_pbehind_row
  exact mss_cons (ms_setO (i := 3) nd rfl (.inl v_pbehind_row_3) (mo_lst (ma_nil))) (mss_cons (ms_for pn rfl (mi_val (me_var (i := 2) rfl (.inl v_pbehind_row_2))) (mg_tup rfl (mgs_cons (mg_name (i := 4) nd rfl (.inl v_pbehind_row_4)) (mgs_cons (mg_name (i := 5) nd rfl (.inl v_pbehind_row_5)) (mgs_nil)))) (mss_cons (ms_setO (i := 6) nd rfl (.inl v_pbehind_row_6) (mbo_list B.list (ma_cons (me_var (i := 4) rfl (.inl v_pbehind_row_4)) (ma_nil)) (hg := (g_pbehind_row_list _ _ _)))) (mss_cons (ms_set (i := 5) nd rfl (.inl v_pbehind_row_5) (me_fz (mf_callB h_pstep hr (by decide) tk (pb_v (me_var (i := 0) rfl (.inl v_pbehind_row_0)) (pb_v (me_var (i := 1) rfl (.inl v_pbehind_row_1)) (pb_b (i := 6) rfl (.inl v_pbehind_row_6) (pb_v (me_var (i := 5) rfl (.inl v_pbehind_row_5)) (pb_nil))))) (bsh_v (bsh_v (bsh_b (bsh_v (bsh_nil))))) (hg := (g_pbehind_row_step _ _ _))))) (mss_one (ms_expr (me_lm1 ls_append PySem.F.slot_list_append PySem.F.type_list_append mt_append (i := 3) rfl (.inl v_pbehind_row_3) (ma_cons (me_tup (ma_cons (mb_tuple B.tuple (ma_cons (me_var (i := 6) rfl (.inl v_pbehind_row_6)) (ma_nil)) (hg := (g_pbehind_row_tuple _ _ _))) (ma_cons (me_var (i := 5) rfl (.inl v_pbehind_row_5)) (ma_nil)))) (ma_nil)))))))) (mss_one (ms_ret (mb_tuple B.tuple (ma_cons (me_var (i := 3) rfl (.inl v_pbehind_row_3)) (ma_nil)) (hg := (g_pbehind_row_tuple _ _ _))))))

abbrev s_ppairs_shut : Stmt := top 30
theorem sc_ppairs_shut : FnScope ["tables", "menu", "most", "pairs", "soonest", "word", "state", "row"] ["tables", "menu", "most", "pairs"] (defScope s_ppairs_shut) := ⟨rfl, rfl, rfl, by decide +kernel, rfl, by decide +kernel, by decide +kernel⟩
theorem v_ppairs_shut_0 : (defScope s_ppairs_shut).names.lookup ("tables" : Str) = some NameKind.local := by decide +kernel
theorem v_ppairs_shut_1 : (defScope s_ppairs_shut).names.lookup ("menu" : Str) = some NameKind.local := by decide +kernel
theorem v_ppairs_shut_2 : (defScope s_ppairs_shut).names.lookup ("most" : Str) = some NameKind.local := by decide +kernel
theorem v_ppairs_shut_3 : (defScope s_ppairs_shut).names.lookup ("pairs" : Str) = some NameKind.local := by decide +kernel
theorem v_ppairs_shut_4 : (defScope s_ppairs_shut).names.lookup ("soonest" : Str) = some NameKind.local := by decide +kernel
theorem v_ppairs_shut_5 : (defScope s_ppairs_shut).names.lookup ("word" : Str) = some NameKind.local := by decide +kernel
theorem v_ppairs_shut_6 : (defScope s_ppairs_shut).names.lookup ("state" : Str) = some NameKind.local := by decide +kernel
theorem v_ppairs_shut_7 : (defScope s_ppairs_shut).names.lookup ("row" : Str) = some NameKind.local := by decide +kernel
theorem g_ppairs_shut_len (L a : Addr) (cd : Value) : (PyProof.Rows.envOfC "pairs_shut" (defScope s_ppairs_shut) L a cd).kindOf ("len" : Str) = some NameKind.globalImplicit := rfl
theorem g_ppairs_shut_min (L a : Addr) (cd : Value) : (PyProof.Rows.envOfC "pairs_shut" (defScope s_ppairs_shut) L a cd).kindOf ("min" : Str) = some NameKind.globalImplicit := rfl
theorem g_ppairs_shut_behind_row (L a : Addr) (cd : Value) : (PyProof.Rows.envOfC "pairs_shut" (defScope s_ppairs_shut) L a cd).kindOf ("behind_row" : Str) = some NameKind.globalImplicit := rfl
theorem ok_ppairs_shut {P : Program} {w : World} {K : PySem.W.Frag} {mg : Str → Option Value} {base : Heap} {f : Addr} {fd : FuncData} (F : Fun K "pairs_shut" "pairs_shut" s_ppairs_shut f fd) (B : Bn mg) (h_pbehind_row : Fd P w K mg base "behind_row" 6 ["tables", "row", "state"] [] f_pbehind_row)    :
    FnOk P w K mg base (L2N.CX P w) 8 f fd ["tables", "menu", "most", "pairs"] (spF K mg 4 [] f_ppairs_shut) := by
  refine fn_ok F sc_ppairs_shut (by decide) (by decide) fun cdv A outer s H E hr => ?_
  have nd := sc_ppairs_shut.nd
  have tk : L2N.Takes (cxOf (L2N.CX P w) P w K mg base ["tables", "menu", "most", "pairs", "soonest", "word", "state", "row"] "pairs_shut" (defScope s_ppairs_shut) f cdv A outer s H E) (fun cls d _ H => E cls d H) := L2N.takes_of rfl rfl rfl rfl
  have pn : PassesOwn (model P w) (cxOf (L2N.CX P w) P w K mg base ["tables", "menu", "most", "pairs", "soonest", "word", "state", "row"] "pairs_shut" (defScope s_ppairs_shut) f cdv A outer s H E).A (cxOf (L2N.CX P w) P w K mg base ["tables", "menu", "most", "pairs", "soonest", "word", "state", "row"] "pairs_shut" (defScope s_ppairs_shut) f cdv A outer s H E).env (cxOf (L2N.CX P w) P w K mg base ["tables", "menu", "most", "pairs", "soonest", "word", "state", "row"] "pairs_shut" (defScope s_ppairs_shut) f cdv A outer s H E).xe := passes_of rfl
  unfold m_ppairs_shut
  exact mss_cons (ms_setO (i := 4) nd rfl (.inl v_ppairs_shut_4) (mo_dn0)) (mss_cons (ms_for pn rfl (mi_val (me_var (i := 3) rfl (.inl v_ppairs_shut_3))) (mg_tup rfl (mgs_cons (mg_name (i := 5) nd rfl (.inl v_ppairs_shut_5)) (mgs_cons (mg_name (i := 6) nd rfl (.inl v_ppairs_shut_6)) (mgs_nil)))) (mss_one (ms_setN hr.units (i := 4) rfl (.inl v_ppairs_shut_4) (mb_min rfl B.min (ma_cons (mb_len B.len (ma_cons (me_var (i := 5) rfl (.inl v_ppairs_shut_5)) (ma_nil)) (hg := (g_ppairs_shut_len _ _ _))) (ma_cons (me_getN2 hr.units (i := 4) rfl (.inl v_ppairs_shut_4) (me_var (i := 6) rfl (.inl v_ppairs_shut_6)) (me_var (i := 2) rfl (.inl v_ppairs_shut_2)) ⟨rfl, rfl, rfl, rfl⟩) (ma_nil))) (hg := (g_ppairs_shut_min _ _ _))) (me_var (i := 6) rfl (.inl v_ppairs_shut_6))))) (mss_cons (ms_for pn rfl (mi_val (me_var (i := 3) rfl (.inl v_ppairs_shut_3))) (mg_tup rfl (mgs_cons (mg_name (i := 5) nd rfl (.inl v_ppairs_shut_5)) (mgs_cons (mg_name (i := 6) nd rfl (.inl v_ppairs_shut_6)) (mgs_nil)))) (mss_one (ms_if (mt_cmp op_lt os_lt (mb_len B.len (ma_cons (me_var (i := 5) rfl (.inl v_ppairs_shut_5)) (ma_nil)) (hg := (g_ppairs_shut_len _ _ _))) (me_var (i := 2) rfl (.inl v_ppairs_shut_2)) (nomark _)) (mss_one (ms_for pn rfl (mi_val (me_var (i := 1) rfl (.inl v_ppairs_shut_1))) (mg_name (i := 7) nd rfl (.inl v_ppairs_shut_7)) (mss_one (ms_if (mt_cmp op_gt os_gt (me_getN2 hr.units (i := 4) rfl (.inl v_ppairs_shut_4) (me_fz (mf_call h_pbehind_row hr (by decide) tk (ma_cons (me_var (i := 0) rfl (.inl v_ppairs_shut_0)) (ma_cons (me_var (i := 7) rfl (.inl v_ppairs_shut_7)) (ma_cons (me_var (i := 6) rfl (.inl v_ppairs_shut_6)) (ma_nil)))) (lng_cons (lng_cons (lng_cons lng_nil))) (hg := (g_ppairs_shut_behind_row _ _ _)))) (me_add (me_var (i := 2) rfl (.inl v_ppairs_shut_2)) (me_int)) ⟨rfl, rfl, rfl, rfl⟩) (me_add (mb_len B.len (ma_cons (me_var (i := 5) rfl (.inl v_ppairs_shut_5)) (ma_nil)) (hg := (g_ppairs_shut_len _ _ _))) (me_int)) (nomark _)) (mss_one (ms_ret (me_bl))) (mss_nil))))) (mss_nil)))) (mss_one (ms_ret (me_bl)))))

abbrev s_pis_word : Stmt := top 27
theorem sc_pis_word : FnScope ["thing", "many", "most", "number"] ["thing", "many", "most"] (defScope s_pis_word) := ⟨rfl, rfl, rfl, by decide +kernel, rfl, by decide +kernel, by decide +kernel⟩
theorem v_pis_word_0 : (defScope s_pis_word).names.lookup ("thing" : Str) = some NameKind.local := by decide +kernel
theorem v_pis_word_1 : (defScope s_pis_word).names.lookup ("many" : Str) = some NameKind.local := by decide +kernel
theorem v_pis_word_2 : (defScope s_pis_word).names.lookup ("most" : Str) = some NameKind.local := by decide +kernel
theorem v_pis_word_3 : (defScope s_pis_word).names.lookup ("number" : Str) = some NameKind.local := by decide +kernel
theorem g_pis_word_tuple (L a : Addr) (cd : Value) : (PyProof.Rows.envOfC "is_word" (defScope s_pis_word) L a cd).kindOf ("tuple" : Str) = some NameKind.globalImplicit := rfl
theorem g_pis_word_isinstance (L a : Addr) (cd : Value) : (PyProof.Rows.envOfC "is_word" (defScope s_pis_word) L a cd).kindOf ("isinstance" : Str) = some NameKind.globalImplicit := rfl
theorem g_pis_word_len (L a : Addr) (cd : Value) : (PyProof.Rows.envOfC "is_word" (defScope s_pis_word) L a cd).kindOf ("len" : Str) = some NameKind.globalImplicit := rfl
theorem g_pis_word_int (L a : Addr) (cd : Value) : (PyProof.Rows.envOfC "is_word" (defScope s_pis_word) L a cd).kindOf ("int" : Str) = some NameKind.globalImplicit := rfl
theorem g_pis_word_bool (L a : Addr) (cd : Value) : (PyProof.Rows.envOfC "is_word" (defScope s_pis_word) L a cd).kindOf ("bool" : Str) = some NameKind.globalImplicit := rfl
theorem ok_pis_word {P : Program} {w : World} {K : PySem.W.Frag} {mg : Str → Option Value} {base : Heap} {f : Addr} {fd : FuncData} (F : Fun K "is_word" "is_word" s_pis_word f fd) (B : Bn mg)     :
    FnOk P w K mg base (L2N.CX P w) 2 f fd ["thing", "many", "most"] (spF K mg 3 [] f_pis_word) := by
  refine fn_ok F sc_pis_word (by decide) (by decide) fun cdv A outer s H E hr => ?_
  have nd := sc_pis_word.nd
  have tk : L2N.Takes (cxOf (L2N.CX P w) P w K mg base ["thing", "many", "most", "number"] "is_word" (defScope s_pis_word) f cdv A outer s H E) (fun cls d _ H => E cls d H) := L2N.takes_of rfl rfl rfl rfl
  have pn : PassesOwn (model P w) (cxOf (L2N.CX P w) P w K mg base ["thing", "many", "most", "number"] "is_word" (defScope s_pis_word) f cdv A outer s H E).A (cxOf (L2N.CX P w) P w K mg base ["thing", "many", "most", "number"] "is_word" (defScope s_pis_word) f cdv A outer s H E).env (cxOf (L2N.CX P w) P w K mg base ["thing", "many", "most", "number"] "is_word" (defScope s_pis_word) f cdv A outer s H E).xe := passes_of rfl
  unfold m_pis_word
  exact mss_cons (ms_if (PW.pt (mw_or (mt_not (mt_val (mb_isi B.isinstance (ma_cons (me_var (i := 0) rfl (.inl v_pis_word_0)) (ma_cons (me_bltn B.tuple (by decide +kernel) (w := .ty "tuple") rfl (hg := (g_pis_word_tuple _ _ _))) ma_nil)) (hg := (g_pis_word_isinstance _ _ _))))) (mw_one_or (mt_cmp op_gt os_gt (mb_len B.len (ma_cons (me_var (i := 0) rfl (.inl v_pis_word_0)) (ma_nil)) (hg := (g_pis_word_len _ _ _))) (me_var (i := 2) rfl (.inl v_pis_word_2)) (nomark _))))) (mss_one (ms_ret (me_bl))) (mss_nil)) (mss_cons (ms_for pn rfl (mi_val (me_var (i := 0) rfl (.inl v_pis_word_0))) (mg_name (i := 3) nd rfl (.inl v_pis_word_3)) (mss_one (ms_if (PW.pt (mw_or (mt_not (mt_val (mb_isi B.isinstance (ma_cons (me_var (i := 3) rfl (.inl v_pis_word_3)) (ma_cons (me_bltn B.int (by decide +kernel) (w := .ty "int") rfl (hg := (g_pis_word_int _ _ _))) ma_nil)) (hg := (g_pis_word_isinstance _ _ _))))) (mw_or (mt_val (mb_isi B.isinstance (ma_cons (me_var (i := 3) rfl (.inl v_pis_word_3)) (ma_cons (me_bltn B.bool (by decide +kernel) (w := .ty "bool") rfl (hg := (g_pis_word_bool _ _ _))) ma_nil)) (hg := (g_pis_word_isinstance _ _ _)))) (mw_one_or (mt_not (mt_chain op_le os_le op_lt os_lt (me_int) (me_var (i := 3) rfl (.inl v_pis_word_3)) (me_var (i := 1) rfl (.inl v_pis_word_1)))))))) (mss_one (ms_ret (me_bl))) (mss_nil)))) (mss_one (ms_ret (me_bl))))

abbrev s_pis_just : Stmt := top 5
theorem sc_pis_just : FnScope ["thing", "due", "part", "wanted"] ["thing", "due"] (defScope s_pis_just) := ⟨rfl, rfl, rfl, by decide +kernel, rfl, by decide +kernel, by decide +kernel⟩
theorem v_pis_just_0 : (defScope s_pis_just).names.lookup ("thing" : Str) = some NameKind.local := by decide +kernel
theorem v_pis_just_1 : (defScope s_pis_just).names.lookup ("due" : Str) = some NameKind.local := by decide +kernel
theorem g_pis_just_tuple (L a : Addr) (cd : Value) : (PyProof.Rows.envOfC "is_just" (defScope s_pis_just) L a cd).kindOf ("tuple" : Str) = some NameKind.globalImplicit := rfl
theorem g_pis_just_isinstance (L a : Addr) (cd : Value) : (PyProof.Rows.envOfC "is_just" (defScope s_pis_just) L a cd).kindOf ("isinstance" : Str) = some NameKind.globalImplicit := rfl
theorem g_pis_just_len (L a : Addr) (cd : Value) : (PyProof.Rows.envOfC "is_just" (defScope s_pis_just) L a cd).kindOf ("len" : Str) = some NameKind.globalImplicit := rfl
theorem g_pis_just_zip (L a : Addr) (cd : Value) : (PyProof.Rows.envOfC "is_just" (defScope s_pis_just) L a cd).kindOf ("zip" : Str) = some NameKind.globalImplicit := rfl
theorem g_pis_just_all (L a : Addr) (cd : Value) : (PyProof.Rows.envOfC "is_just" (defScope s_pis_just) L a cd).kindOf ("all" : Str) = some NameKind.globalImplicit := rfl
theorem g_pis_just_str (L a : Addr) (cd : Value) : (PyProof.Rows.envOfC "is_just" (defScope s_pis_just) L a cd).kindOf ("str" : Str) = some NameKind.globalImplicit := rfl
theorem g_pis_just_int (L a : Addr) (cd : Value) : (PyProof.Rows.envOfC "is_just" (defScope s_pis_just) L a cd).kindOf ("int" : Str) = some NameKind.globalImplicit := rfl
theorem g_pis_just_bool (L a : Addr) (cd : Value) : (PyProof.Rows.envOfC "is_just" (defScope s_pis_just) L a cd).kindOf ("bool" : Str) = some NameKind.globalImplicit := rfl
theorem ok_pis_just {P : Program} {w : World} {K : PySem.W.Frag} {mg : Str → Option Value} {base : Heap} {f : Addr} {fd : FuncData} (F : Fun K "is_just" "is_just" s_pis_just f fd) (hs : mg "is_just" = some (.ref f)) (hk : PySem.W.keepIn K (.ref f) = true) (hb : Binds K fd ["thing", "due"] []) (B : Bn mg)     :
    ∀ n : Nat, FnOk P w K mg base (L2N.CX P w) (2 + n) f fd ["thing", "due"] (spF K mg 2 [] (mRec 4 [] m_pis_just n)) := by
  intro n
  induction n with
  | zero => exact fn_off
  | succ n ih =>
  have h_self : Fd P w K mg base "is_just" (2 + n) ["thing", "due"] [] (mRec 4 [] m_pis_just n) := ⟨_, _, ih, hs, hk, hb⟩
  refine fn_ok F sc_pis_just (by decide) (by decide) fun cdv A outer s H E hr => ?_
  have nd := sc_pis_just.nd
  have tk : L2N.Takes (cxOf (L2N.CX P w) P w K mg base ["thing", "due", "part", "wanted"] "is_just" (defScope s_pis_just) f cdv A outer s H E) (fun cls d _ H => E cls d H) := L2N.takes_of rfl rfl rfl rfl
  have pn : PassesOwn (model P w) (cxOf (L2N.CX P w) P w K mg base ["thing", "due", "part", "wanted"] "is_just" (defScope s_pis_just) f cdv A outer s H E).A (cxOf (L2N.CX P w) P w K mg base ["thing", "due", "part", "wanted"] "is_just" (defScope s_pis_just) f cdv A outer s H E).env (cxOf (L2N.CX P w) P w K mg base ["thing", "due", "part", "wanted"] "is_just" (defScope s_pis_just) f cdv A outer s H E).xe := passes_of rfl
  show PSs _ _ (rdS _ (m_pis_just (mRec 4 [] m_pis_just n)))
  unfold m_pis_just
  exact mss_cons (ms_if (mt_val (mb_isi B.isinstance (ma_cons (me_var (i := 1) rfl (.inl v_pis_just_1)) (ma_cons (me_bltn B.tuple (by decide +kernel) (w := .ty "tuple") rfl (hg := (g_pis_just_tuple _ _ _))) ma_nil)) (hg := (g_pis_just_isinstance _ _ _)))) (mss_cons (ms_if (PW.pt (mw_or (mt_not (mt_val (mb_isi B.isinstance (ma_cons (me_var (i := 0) rfl (.inl v_pis_just_0)) (ma_cons (me_bltn B.tuple (by decide +kernel) (w := .ty "tuple") rfl (hg := (g_pis_just_tuple _ _ _))) ma_nil)) (hg := (g_pis_just_isinstance _ _ _))))) (mw_one_or (mt_cmp (op_neM hr.units) os_ne (mb_len B.len (ma_cons (me_var (i := 0) rfl (.inl v_pis_just_0)) (ma_nil)) (hg := (g_pis_just_len _ _ _))) (mb_len B.len (ma_cons (me_var (i := 1) rfl (.inl v_pis_just_1)) (ma_nil)) (hg := (g_pis_just_len _ _ _))) (nomark _))))) (mss_one (ms_ret (me_bl))) (mss_nil)) (mss_one (ms_ret (mb_all rfl B.all (ma_cons (me_fz (mo_lc (own := [("part", 2), ("wanted", 3)]) (g := .tp [2, 3]) rfl nd (mi_zip B.zip (ma_cons (me_var (i := 0) rfl (.inl v_pis_just_0)) (ma_cons (me_var (i := 1) rfl (.inl v_pis_just_1)) (ma_nil))) (hg := (g_pis_just_zip _ _ _))) (blkOk_at (N' := ["thing", "due", "part", "wanted"]) (sc' := defScope s_pis_just) rfl rfl (by decide +kernel)) (fun _ _ _ _ _ => pg_tup rfl (pgs_cons (pg_name (i := 2) nd rfl (Or.inl rfl)) (pgs_cons (pg_name (i := 3) nd rfl (Or.inl rfl)) (pgs_nil)))) (fun _ _ _ _ _ => mts_nil) (fun _ _ _ _ _ => me_fz (mf_call0 h_self hr (by first | omega | exact Nat.le_refl _) (ma_cons (me_var (i := 2) rfl (.inl rfl)) (ma_cons (me_var (i := 3) rfl (.inl rfl)) (ma_nil))) (lng_cons (lng_cons lng_nil)) (hg := rfl))) (hbs := hbs_of rfl))) (ma_nil)) (hg := (g_pis_just_all _ _ _)))))) (mss_nil)) (mss_cons (ms_if (mt_val (mb_isi B.isinstance (ma_cons (me_var (i := 1) rfl (.inl v_pis_just_1)) (ma_cons (me_bltn B.str (by decide +kernel) (w := .ty "str") rfl (hg := (g_pis_just_str _ _ _))) ma_nil)) (hg := (g_pis_just_isinstance _ _ _)))) (mss_one (ms_ret (me_and (mb_isi B.isinstance (ma_cons (me_var (i := 0) rfl (.inl v_pis_just_0)) (ma_cons (me_bltn B.str (by decide +kernel) (w := .ty "str") rfl (hg := (g_pis_just_str _ _ _))) ma_nil)) (hg := (g_pis_just_isinstance _ _ _))) (me_one (me_cmp (op_eqM hr.units) os_eq (me_var (i := 0) rfl (.inl v_pis_just_0)) (me_var (i := 1) rfl (.inl v_pis_just_1)) (nomark _)))))) (mss_nil)) (mss_cons (ms_if (PW.pt (mw_or (mt_not (mt_val (mb_isi B.isinstance (ma_cons (me_var (i := 0) rfl (.inl v_pis_just_0)) (ma_cons (me_bltn B.int (by decide +kernel) (w := .ty "int") rfl (hg := (g_pis_just_int _ _ _))) ma_nil)) (hg := (g_pis_just_isinstance _ _ _))))) (mw_one_or (mt_cmp (op_neM hr.units) os_ne (mb_isi B.isinstance (ma_cons (me_var (i := 0) rfl (.inl v_pis_just_0)) (ma_cons (me_bltn B.bool (by decide +kernel) (w := .ty "bool") rfl (hg := (g_pis_just_bool _ _ _))) ma_nil)) (hg := (g_pis_just_isinstance _ _ _))) (mb_isi B.isinstance (ma_cons (me_var (i := 1) rfl (.inl v_pis_just_1)) (ma_cons (me_bltn B.bool (by decide +kernel) (w := .ty "bool") rfl (hg := (g_pis_just_bool _ _ _))) ma_nil)) (hg := (g_pis_just_isinstance _ _ _))) (nomark _))))) (mss_one (ms_ret (me_bl))) (mss_nil)) (mss_one (ms_ret (me_cmp (op_eqM hr.units) os_eq (me_var (i := 0) rfl (.inl v_pis_just_0)) (me_var (i := 1) rfl (.inl v_pis_just_1)) (nomark _))))))

abbrev s_pstate_of : Stmt := top 28
theorem sc_pstate_of : FnScope ["tables", "menu", "starts", "word", "state", "number"] ["tables", "menu", "starts", "word"] (defScope s_pstate_of) := ⟨rfl, rfl, rfl, by decide +kernel, rfl, by decide +kernel, by decide +kernel⟩
theorem v_pstate_of_0 : (defScope s_pstate_of).names.lookup ("tables" : Str) = some NameKind.local := by decide +kernel
theorem v_pstate_of_1 : (defScope s_pstate_of).names.lookup ("menu" : Str) = some NameKind.local := by decide +kernel
theorem v_pstate_of_2 : (defScope s_pstate_of).names.lookup ("starts" : Str) = some NameKind.local := by decide +kernel
theorem v_pstate_of_3 : (defScope s_pstate_of).names.lookup ("word" : Str) = some NameKind.local := by decide +kernel
theorem v_pstate_of_4 : (defScope s_pstate_of).names.lookup ("state" : Str) = some NameKind.local := by decide +kernel
theorem v_pstate_of_5 : (defScope s_pstate_of).names.lookup ("number" : Str) = some NameKind.local := by decide +kernel
theorem g_pstate_of_behind_row (L a : Addr) (cd : Value) : (PyProof.Rows.envOfC "state_of" (defScope s_pstate_of) L a cd).kindOf ("behind_row" : Str) = some NameKind.globalImplicit := rfl
theorem ok_pstate_of {P : Program} {w : World} {K : PySem.W.Frag} {mg : Str → Option Value} {base : Heap} {f : Addr} {fd : FuncData} (F : Fun K "state_of" "state_of" s_pstate_of f fd) (B : Bn mg) (h_pbehind_row : Fd P w K mg base "behind_row" 6 ["tables", "row", "state"] [] f_pbehind_row)    :
    FnOk P w K mg base (L2N.CX P w) 8 f fd ["tables", "menu", "starts", "word"] (spF K mg 4 [] f_pstate_of) := by
  refine fn_ok F sc_pstate_of (by decide) (by decide) fun cdv A outer s H E hr => ?_
  have nd := sc_pstate_of.nd
  have tk : L2N.Takes (cxOf (L2N.CX P w) P w K mg base ["tables", "menu", "starts", "word", "state", "number"] "state_of" (defScope s_pstate_of) f cdv A outer s H E) (fun cls d _ H => E cls d H) := L2N.takes_of rfl rfl rfl rfl
  have pn : PassesOwn (model P w) (cxOf (L2N.CX P w) P w K mg base ["tables", "menu", "starts", "word", "state", "number"] "state_of" (defScope s_pstate_of) f cdv A outer s H E).A (cxOf (L2N.CX P w) P w K mg base ["tables", "menu", "starts", "word", "state", "number"] "state_of" (defScope s_pstate_of) f cdv A outer s H E).env (cxOf (L2N.CX P w) P w K mg base ["tables", "menu", "starts", "word", "state", "number"] "state_of" (defScope s_pstate_of) f cdv A outer s H E).xe := passes_of rfl
  unfold m_pstate_of
  exact mss_cons (ms_set (i := 4) nd rfl (.inl v_pstate_of_4) (me_var (i := 2) rfl (.inl v_pstate_of_2))) (mss_cons (ms_for pn rfl (mi_val (me_var (i := 3) rfl (.inl v_pstate_of_3))) (mg_name (i := 5) nd rfl (.inl v_pstate_of_5)) (mss_one (ms_set (i := 4) nd rfl (.inl v_pstate_of_4) (me_fz (mf_call h_pbehind_row hr (by decide) tk (ma_cons (me_var (i := 0) rfl (.inl v_pstate_of_0)) (ma_cons (me_ix (me_var (i := 1) rfl (.inl v_pstate_of_1)) (me_var (i := 5) rfl (.inl v_pstate_of_5))) (ma_cons (me_var (i := 4) rfl (.inl v_pstate_of_4)) (ma_nil)))) (lng_cons (lng_cons (lng_cons lng_nil))) (hg := (g_pstate_of_behind_row _ _ _))))))) (mss_one (ms_ret (me_var (i := 4) rfl (.inl v_pstate_of_4)))))

abbrev s_ppairs_right : Stmt := top 29
theorem sc_ppairs_right : FnScope ["tables", "menu", "starts", "most", "pairs", "pair"] ["tables", "menu", "starts", "most", "pairs"] (defScope s_ppairs_right) := ⟨rfl, rfl, rfl, by decide +kernel, rfl, by decide +kernel, by decide +kernel⟩
theorem v_ppairs_right_0 : (defScope s_ppairs_right).names.lookup ("tables" : Str) = some NameKind.local := by decide +kernel
theorem v_ppairs_right_1 : (defScope s_ppairs_right).names.lookup ("menu" : Str) = some NameKind.local := by decide +kernel
theorem v_ppairs_right_2 : (defScope s_ppairs_right).names.lookup ("starts" : Str) = some NameKind.local := by decide +kernel
theorem v_ppairs_right_3 : (defScope s_ppairs_right).names.lookup ("most" : Str) = some NameKind.local := by decide +kernel
theorem v_ppairs_right_4 : (defScope s_ppairs_right).names.lookup ("pairs" : Str) = some NameKind.local := by decide +kernel
theorem v_ppairs_right_5 : (defScope s_ppairs_right).names.lookup ("pair" : Str) = some NameKind.local := by decide +kernel
theorem g_ppairs_right_tuple (L a : Addr) (cd : Value) : (PyProof.Rows.envOfC "pairs_right" (defScope s_ppairs_right) L a cd).kindOf ("tuple" : Str) = some NameKind.globalImplicit := rfl
theorem g_ppairs_right_isinstance (L a : Addr) (cd : Value) : (PyProof.Rows.envOfC "pairs_right" (defScope s_ppairs_right) L a cd).kindOf ("isinstance" : Str) = some NameKind.globalImplicit := rfl
theorem g_ppairs_right_len (L a : Addr) (cd : Value) : (PyProof.Rows.envOfC "pairs_right" (defScope s_ppairs_right) L a cd).kindOf ("len" : Str) = some NameKind.globalImplicit := rfl
theorem g_ppairs_right_is_word (L a : Addr) (cd : Value) : (PyProof.Rows.envOfC "pairs_right" (defScope s_ppairs_right) L a cd).kindOf ("is_word" : Str) = some NameKind.globalImplicit := rfl
theorem g_ppairs_right_state_of (L a : Addr) (cd : Value) : (PyProof.Rows.envOfC "pairs_right" (defScope s_ppairs_right) L a cd).kindOf ("state_of" : Str) = some NameKind.globalImplicit := rfl
theorem g_ppairs_right_is_just (L a : Addr) (cd : Value) : (PyProof.Rows.envOfC "pairs_right" (defScope s_ppairs_right) L a cd).kindOf ("is_just" : Str) = some NameKind.globalImplicit := rfl
theorem ok_ppairs_right {P : Program} {w : World} {K : PySem.W.Frag} {mg : Str → Option Value} {base : Heap} {f : Addr} {fd : FuncData} (F : Fun K "pairs_right" "pairs_right" s_ppairs_right f fd) (B : Bn mg) (h_pis_word : Fd P w K mg base "is_word" 2 ["thing", "many", "most"] [] f_pis_word) (h_pis_just : Fd P w K mg base "is_just" 10 ["thing", "due"] [] f_pis_just) (h_pstate_of : Fd P w K mg base "state_of" 8 ["tables", "menu", "starts", "word"] [] f_pstate_of)    :
    FnOk P w K mg base (L2N.CX P w) 12 f fd ["tables", "menu", "starts", "most", "pairs"] (spF K mg 5 [] f_ppairs_right) := by
  refine fn_ok F sc_ppairs_right (by decide) (by decide) fun cdv A outer s H E hr => ?_
  have nd := sc_ppairs_right.nd
  have tk : L2N.Takes (cxOf (L2N.CX P w) P w K mg base ["tables", "menu", "starts", "most", "pairs", "pair"] "pairs_right" (defScope s_ppairs_right) f cdv A outer s H E) (fun cls d _ H => E cls d H) := L2N.takes_of rfl rfl rfl rfl
  have pn : PassesOwn (model P w) (cxOf (L2N.CX P w) P w K mg base ["tables", "menu", "starts", "most", "pairs", "pair"] "pairs_right" (defScope s_ppairs_right) f cdv A outer s H E).A (cxOf (L2N.CX P w) P w K mg base ["tables", "menu", "starts", "most", "pairs", "pair"] "pairs_right" (defScope s_ppairs_right) f cdv A outer s H E).env (cxOf (L2N.CX P w) P w K mg base ["tables", "menu", "starts", "most", "pairs", "pair"] "pairs_right" (defScope s_ppairs_right) f cdv A outer s H E).xe := passes_of rfl
  unfold m_ppairs_right
  exact mss_cons (ms_if (PW.pt (mw_or (mt_not (mt_val (mb_isi B.isinstance (ma_cons (me_var (i := 4) rfl (.inl v_ppairs_right_4)) (ma_cons (me_bltn B.tuple (by decide +kernel) (w := .ty "tuple") rfl (hg := (g_ppairs_right_tuple _ _ _))) ma_nil)) (hg := (g_ppairs_right_isinstance _ _ _))))) (mw_one_or (mt_cmp (op_eqM hr.units) os_eq (mb_len B.len (ma_cons (me_var (i := 4) rfl (.inl v_ppairs_right_4)) (ma_nil)) (hg := (g_ppairs_right_len _ _ _))) (me_int) (nomark _))))) (mss_one (ms_ret (me_bl))) (mss_nil)) (mss_cons (ms_for pn rfl (mi_val (me_var (i := 4) rfl (.inl v_ppairs_right_4))) (mg_name (i := 5) nd rfl (.inl v_ppairs_right_5)) (mss_cons (ms_if (PW.pt (mw_or (mt_not (mt_val (mb_isi B.isinstance (ma_cons (me_var (i := 5) rfl (.inl v_ppairs_right_5)) (ma_cons (me_bltn B.tuple (by decide +kernel) (w := .ty "tuple") rfl (hg := (g_ppairs_right_tuple _ _ _))) ma_nil)) (hg := (g_ppairs_right_isinstance _ _ _))))) (mw_or (mt_cmp (op_neM hr.units) os_ne (mb_len B.len (ma_cons (me_var (i := 5) rfl (.inl v_ppairs_right_5)) (ma_nil)) (hg := (g_ppairs_right_len _ _ _))) (me_int) (nomark _)) (mw_one_or (mt_not (mt_val (me_fz (mf_call h_pis_word hr (by decide) tk (ma_cons (me_ix (me_var (i := 5) rfl (.inl v_ppairs_right_5)) (me_int)) (ma_cons (mb_len B.len (ma_cons (me_var (i := 1) rfl (.inl v_ppairs_right_1)) (ma_nil)) (hg := (g_ppairs_right_len _ _ _))) (ma_cons (me_var (i := 3) rfl (.inl v_ppairs_right_3)) (ma_nil)))) (lng_cons (lng_cons (lng_cons lng_nil))) (hg := (g_ppairs_right_is_word _ _ _)))))))))) (mss_one (ms_ret (me_bl))) (mss_nil)) (mss_one (ms_if (mt_not (mt_val (me_fz (mf_call h_pis_just hr (by decide) tk (ma_cons (me_ix (me_var (i := 5) rfl (.inl v_ppairs_right_5)) (me_int)) (ma_cons (me_fz (mf_call h_pstate_of hr (by decide) tk (ma_cons (me_var (i := 0) rfl (.inl v_ppairs_right_0)) (ma_cons (me_var (i := 1) rfl (.inl v_ppairs_right_1)) (ma_cons (me_var (i := 2) rfl (.inl v_ppairs_right_2)) (ma_cons (me_ix (me_var (i := 5) rfl (.inl v_ppairs_right_5)) (me_int)) (ma_nil))))) (lng_cons (lng_cons (lng_cons (lng_cons lng_nil)))) (hg := (g_ppairs_right_state_of _ _ _)))) (ma_nil))) (lng_cons (lng_cons lng_nil)) (hg := (g_ppairs_right_is_just _ _ _)))))) (mss_one (ms_ret (me_bl))) (mss_nil))))) (mss_one (ms_ret (me_cmp (op_eqM hr.units) os_eq (me_ix (me_ix (me_var (i := 4) rfl (.inl v_ppairs_right_4)) (me_int)) (me_int)) (me_tup (ma_nil)) (nomark _)))))

abbrev s_pdoes_all : Stmt := top 24
theorem sc_pdoes_all : FnScope ["state", "cases", "there", "case"] ["state", "cases"] (defScope s_pdoes_all) := ⟨rfl, rfl, rfl, by decide +kernel, rfl, by decide +kernel, by decide +kernel⟩
theorem v_pdoes_all_0 : (defScope s_pdoes_all).names.lookup ("state" : Str) = some NameKind.local := by decide +kernel
theorem v_pdoes_all_1 : (defScope s_pdoes_all).names.lookup ("cases" : Str) = some NameKind.local := by decide +kernel
theorem g_pdoes_all_zip (L a : Addr) (cd : Value) : (PyProof.Rows.envOfC "does_all" (defScope s_pdoes_all) L a cd).kindOf ("zip" : Str) = some NameKind.globalImplicit := rfl
theorem g_pdoes_all_all (L a : Addr) (cd : Value) : (PyProof.Rows.envOfC "does_all" (defScope s_pdoes_all) L a cd).kindOf ("all" : Str) = some NameKind.globalImplicit := rfl
theorem ok_pdoes_all {P : Program} {w : World} {K : PySem.W.Frag} {mg : Str → Option Value} {base : Heap} {f : Addr} {fd : FuncData} (F : Fun K "does_all" "does_all" s_pdoes_all f fd) (B : Bn mg)     :
    FnOk P w K mg base (L2N.CX P w) 2 f fd ["state", "cases"] (spF K mg 2 [] f_pdoes_all) := by
  refine fn_ok F sc_pdoes_all (by decide) (by decide) fun cdv A outer s H E hr => ?_
  have nd := sc_pdoes_all.nd
  have tk : L2N.Takes (cxOf (L2N.CX P w) P w K mg base ["state", "cases", "there", "case"] "does_all" (defScope s_pdoes_all) f cdv A outer s H E) (fun cls d _ H => E cls d H) := L2N.takes_of rfl rfl rfl rfl
  have pn : PassesOwn (model P w) (cxOf (L2N.CX P w) P w K mg base ["state", "cases", "there", "case"] "does_all" (defScope s_pdoes_all) f cdv A outer s H E).A (cxOf (L2N.CX P w) P w K mg base ["state", "cases", "there", "case"] "does_all" (defScope s_pdoes_all) f cdv A outer s H E).env (cxOf (L2N.CX P w) P w K mg base ["state", "cases", "there", "case"] "does_all" (defScope s_pdoes_all) f cdv A outer s H E).xe := passes_of rfl
  unfold m_pdoes_all
  exact mss_one (ms_ret (mb_all rfl B.all (ma_cons (me_fz (mo_lc (own := [("there", 2), ("case", 3)]) (g := .tp [2, 3]) rfl nd (mi_zip B.zip (ma_cons (me_var (i := 0) rfl (.inl v_pdoes_all_0)) (ma_cons (me_var (i := 1) rfl (.inl v_pdoes_all_1)) (ma_nil))) (hg := (g_pdoes_all_zip _ _ _))) (blkOk_at (N' := ["state", "cases", "there", "case"]) (sc' := defScope s_pdoes_all) rfl rfl (by decide +kernel)) (fun _ _ _ _ _ => pg_tup rfl (pgs_cons (pg_name (i := 2) nd rfl (Or.inl rfl)) (pgs_cons (pg_name (i := 3) nd rfl (Or.inl rfl)) (pgs_nil)))) (fun _ _ _ _ _ => mts_nil) (fun _ _ _ _ _ => me_cmp (op_eqM hr.units) os_eq (me_ix (me_ix (me_var (i := 2) rfl (.inl rfl)) (me_int)) (me_int)) (me_ix (me_var (i := 3) rfl (.inl rfl)) (me_int)) (nomark _)) (hbs := hbs_of rfl))) (ma_nil)) (hg := (g_pdoes_all_all _ _ _))))

abbrev s_pall_states : Stmt := top 22
theorem sc_pall_states : FnScope ["tables", "menu", "starts", "most", "first", "words", "layer", "turn", "fresh", "state", "number", "row", "there", "cells", "mark"] ["tables", "menu", "starts", "most"] (defScope s_pall_states) := ⟨rfl, rfl, rfl, by decide +kernel, rfl, by decide +kernel, by decide +kernel⟩
theorem v_pall_states_0 : (defScope s_pall_states).names.lookup ("tables" : Str) = some NameKind.local := by decide +kernel
theorem v_pall_states_1 : (defScope s_pall_states).names.lookup ("menu" : Str) = some NameKind.local := by decide +kernel
theorem v_pall_states_2 : (defScope s_pall_states).names.lookup ("starts" : Str) = some NameKind.local := by decide +kernel
theorem v_pall_states_3 : (defScope s_pall_states).names.lookup ("most" : Str) = some NameKind.local := by decide +kernel
theorem v_pall_states_4 : (defScope s_pall_states).names.lookup ("first" : Str) = some NameKind.local := by decide +kernel
theorem v_pall_states_5 : (defScope s_pall_states).names.lookup ("words" : Str) = some NameKind.cell := by decide +kernel
theorem v_pall_states_6 : (defScope s_pall_states).names.lookup ("layer" : Str) = some NameKind.local := by decide +kernel
theorem v_pall_states_7 : (defScope s_pall_states).names.lookup ("turn" : Str) = some NameKind.local := by decide +kernel
theorem v_pall_states_8 : (defScope s_pall_states).names.lookup ("fresh" : Str) = some NameKind.local := by decide +kernel
theorem v_pall_states_9 : (defScope s_pall_states).names.lookup ("state" : Str) = some NameKind.local := by decide +kernel
theorem v_pall_states_10 : (defScope s_pall_states).names.lookup ("number" : Str) = some NameKind.local := by decide +kernel
theorem v_pall_states_11 : (defScope s_pall_states).names.lookup ("row" : Str) = some NameKind.local := by decide +kernel
theorem v_pall_states_12 : (defScope s_pall_states).names.lookup ("there" : Str) = some NameKind.local := by decide +kernel
theorem g_pall_states_tuple (L a : Addr) (cd : Value) : (PyProof.Rows.envOfC "all_states" (defScope s_pall_states) L a cd).kindOf ("tuple" : Str) = some NameKind.globalImplicit := rfl
theorem g_pall_states_range (L a : Addr) (cd : Value) : (PyProof.Rows.envOfC "all_states" (defScope s_pall_states) L a cd).kindOf ("range" : Str) = some NameKind.globalImplicit := rfl
theorem g_pall_states_enumerate (L a : Addr) (cd : Value) : (PyProof.Rows.envOfC "all_states" (defScope s_pall_states) L a cd).kindOf ("enumerate" : Str) = some NameKind.globalImplicit := rfl
theorem g_pall_states_behind_row (L a : Addr) (cd : Value) : (PyProof.Rows.envOfC "all_states" (defScope s_pall_states) L a cd).kindOf ("behind_row" : Str) = some NameKind.globalImplicit := rfl
theorem g_pall_states_list (L a : Addr) (cd : Value) : (PyProof.Rows.envOfC "all_states" (defScope s_pall_states) L a cd).kindOf ("list" : Str) = some NameKind.globalImplicit := rfl
theorem ok_pall_states {P : Program} {w : World} {K : PySem.W.Frag} {mg : Str → Option Value} {base : Heap} {f : Addr} {fd : FuncData} (F : Fun K "all_states" "all_states" s_pall_states f fd) (B : Bn mg) (h_pbehind_row : Fd P w K mg base "behind_row" 6 ["tables", "row", "state"] [] f_pbehind_row)    :
    FnOk P w K mg base (L2N.CX P w) 8 f fd ["tables", "menu", "starts", "most"] (spF K mg 4 [] f_pall_states) := by
  refine fn_ok F sc_pall_states (by decide) (by decide) fun cdv A outer s H E hr => ?_
  have nd := sc_pall_states.nd
  have tk : L2N.Takes (cxOf (L2N.CX P w) P w K mg base ["tables", "menu", "starts", "most", "first", "words", "layer", "turn", "fresh", "state", "number", "row", "there", "cells", "mark"] "all_states" (defScope s_pall_states) f cdv A outer s H E) (fun cls d _ H => E cls d H) := L2N.takes_of rfl rfl rfl rfl
  have pn : PassesOwn (model P w) (cxOf (L2N.CX P w) P w K mg base ["tables", "menu", "starts", "most", "first", "words", "layer", "turn", "fresh", "state", "number", "row", "there", "cells", "mark"] "all_states" (defScope s_pall_states) f cdv A outer s H E).A (cxOf (L2N.CX P w) P w K mg base ["tables", "menu", "starts", "most", "first", "words", "layer", "turn", "fresh", "state", "number", "row", "there", "cells", "mark"] "all_states" (defScope s_pall_states) f cdv A outer s H E).env (cxOf (L2N.CX P w) P w K mg base ["tables", "menu", "starts", "most", "first", "words", "layer", "turn", "fresh", "state", "number", "row", "there", "cells", "mark"] "all_states" (defScope s_pall_states) f cdv A outer s H E).xe := passes_of rfl
  unfold m_pall_states
  exact mss_cons (ms_set (i := 4) nd rfl (.inl v_pall_states_4) (mb_tuple B.tuple (ma_cons (me_fz (mo_lc (own := [("cells", 13), ("mark", 14)]) (g := .tp [13, 14]) rfl nd (mi_val (me_var (i := 2) rfl (.inl v_pall_states_2))) (blkOk_at (N' := ["tables", "menu", "starts", "most", "first", "words", "layer", "turn", "fresh", "state", "number", "row", "there", "cells", "mark"]) (sc' := defScope s_pall_states) rfl rfl (by decide +kernel)) (fun _ _ _ _ _ => pg_tup rfl (pgs_cons (pg_name (i := 13) nd rfl (Or.inl rfl)) (pgs_cons (pg_name (i := 14) nd rfl (Or.inl rfl)) (pgs_nil)))) (fun _ _ _ _ _ => mts_nil) (fun _ _ _ _ _ => me_tup (ma_cons (mb_tuple B.tuple (ma_cons (me_var (i := 13) rfl (.inl rfl)) (ma_nil)) (hg := rfl)) (ma_cons (me_var (i := 14) rfl (.inl rfl)) (ma_nil)))) (hbs := hbs_of rfl))) (ma_nil)) (hg := (g_pall_states_tuple _ _ _)))) (mss_cons (ms_setO (i := 5) nd rfl (.inr v_pall_states_5) (mo_dn1 hr.units (me_var (i := 4) rfl (.inl v_pall_states_4)) (me_tup (ma_nil)))) (mss_cons (ms_set (i := 6) nd rfl (.inl v_pall_states_6) (me_lst (ma_cons (me_var (i := 4) rfl (.inl v_pall_states_4)) (ma_nil)))) (mss_cons (ms_for pn rfl (mi_r1 B.range (ma_cons (me_var (i := 3) rfl (.inl v_pall_states_3)) (ma_nil)) (hg := (g_pall_states_range _ _ _))) (mg_name (i := 7) nd rfl (.inl v_pall_states_7)) (mss_cons (ms_setO (i := 8) nd rfl (.inl v_pall_states_8) (mo_lst (ma_nil))) (mss_cons (ms_for pn rfl (mi_val (me_var (i := 6) rfl (.inl v_pall_states_6))) (mg_name (i := 9) nd rfl (.inl v_pall_states_9)) (mss_one (ms_for pn rfl (mi_enumT B.enumerate (ma_cons (me_var (i := 1) rfl (.inl v_pall_states_1)) (ma_nil)) (hg := (g_pall_states_enumerate _ _ _))) (mg_tup rfl (mgs_cons (mg_name (i := 10) nd rfl (.inl v_pall_states_10)) (mgs_cons (mg_name (i := 11) nd rfl (.inl v_pall_states_11)) (mgs_nil)))) (mss_cons (ms_set (i := 12) nd rfl (.inl v_pall_states_12) (me_fz (mf_call h_pbehind_row hr (by decide) tk (ma_cons (me_var (i := 0) rfl (.inl v_pall_states_0)) (ma_cons (me_var (i := 11) rfl (.inl v_pall_states_11)) (ma_cons (me_var (i := 9) rfl (.inl v_pall_states_9)) (ma_nil)))) (lng_cons (lng_cons (lng_cons lng_nil))) (hg := (g_pall_states_behind_row _ _ _))))) (mss_one (ms_if (mt_ninN hr.units (i := 5) rfl (.inr (.inl v_pall_states_5)) (me_var (i := 12) rfl (.inl v_pall_states_12))) (mss_cons (ms_setN hr.units (i := 5) rfl (.inr (.inl v_pall_states_5)) (me_add (me_ixN hr.units (i := 5) rfl (.inr (.inl v_pall_states_5)) (me_var (i := 9) rfl (.inl v_pall_states_9))) (me_tup (ma_cons (me_var (i := 10) rfl (.inl v_pall_states_10)) (ma_nil)))) (me_var (i := 12) rfl (.inl v_pall_states_12))) (mss_one (ms_expr (me_lm1 ls_append PySem.F.slot_list_append PySem.F.type_list_append mt_append (i := 8) rfl (.inl v_pall_states_8) (ma_cons (me_var (i := 12) rfl (.inl v_pall_states_12)) (ma_nil)))))) (mss_nil))))))) (mss_one (ms_set (i := 6) nd rfl (.inl v_pall_states_6) (me_var (i := 8) rfl (.inl v_pall_states_8))))))) (mss_one (ms_ret (me_fz (mo_lc (own := [("state", 9)]) (g := .nm 9) rfl nd (mi_val (me_listN rfl B.list (i := 5) rfl (.inr (.inl v_pall_states_5)) (hg := (g_pall_states_list _ _ _)))) (blkOk_at (N' := ["tables", "menu", "starts", "most", "first", "words", "layer", "turn", "fresh", "state", "number", "row", "there", "cells", "mark"]) (sc' := defScope s_pall_states) rfl rfl (by decide +kernel)) (fun _ _ _ _ _ => pg_name (i := 9) nd rfl (Or.inl rfl)) (fun _ _ _ _ _ => mts_nil) (fun _ _ _ _ _ => me_tup (ma_cons (me_ixN hr.units (i := 5) rfl (by first | exact .inr (.inr rfl) | exact .inl rfl | exact .inr (.inl rfl)) (me_var (i := 9) rfl (.inl rfl))) (ma_cons (me_var (i := 9) rfl (.inl rfl)) (ma_nil)))) (hbs := hbs_of rfl))))))))

abbrev s_plisted : Stmt := top 23
theorem sc_plisted : FnScope ["tables", "menu", "starts", "most"] ["tables", "menu", "starts", "most"] (defScope s_plisted) := ⟨rfl, rfl, rfl, by decide +kernel, rfl, by decide +kernel, by decide +kernel⟩
theorem v_plisted_0 : (defScope s_plisted).names.lookup ("tables" : Str) = some NameKind.local := by decide +kernel
theorem v_plisted_1 : (defScope s_plisted).names.lookup ("menu" : Str) = some NameKind.local := by decide +kernel
theorem v_plisted_2 : (defScope s_plisted).names.lookup ("starts" : Str) = some NameKind.local := by decide +kernel
theorem v_plisted_3 : (defScope s_plisted).names.lookup ("most" : Str) = some NameKind.local := by decide +kernel
theorem g_plisted_held_menu (L a : Addr) (cd : Value) : (PyProof.Rows.envOfC "listed" (defScope s_plisted) L a cd).kindOf ("held_menu" : Str) = some NameKind.globalImplicit := rfl
theorem g_plisted_all_states (L a : Addr) (cd : Value) : (PyProof.Rows.envOfC "listed" (defScope s_plisted) L a cd).kindOf ("all_states" : Str) = some NameKind.globalImplicit := rfl
theorem g_plisted_tuple (L a : Addr) (cd : Value) : (PyProof.Rows.envOfC "listed" (defScope s_plisted) L a cd).kindOf ("tuple" : Str) = some NameKind.globalImplicit := rfl
theorem ok_plisted {P : Program} {w : World} {K : PySem.W.Frag} {mg : Str → Option Value} {base : Heap} {f : Addr} {fd : FuncData} (F : Fun K "listed" "listed" s_plisted f fd) (B : Bn mg) (h_pheld_menu : Fd P w K mg base "held_menu" 8 ["tables", "menu", "starts"] [] f_pheld_menu) (h_pall_states : Fd P w K mg base "all_states" 8 ["tables", "menu", "starts", "most"] [] f_pall_states)    :
    FnOk P w K mg base (L2N.CX P w) 10 f fd ["tables", "menu", "starts", "most"] (spF K mg 4 [] f_plisted) := by
  refine fn_ok F sc_plisted (by decide) (by decide) fun cdv A outer s H E hr => ?_
  have nd := sc_plisted.nd
  have tk : L2N.Takes (cxOf (L2N.CX P w) P w K mg base ["tables", "menu", "starts", "most"] "listed" (defScope s_plisted) f cdv A outer s H E) (fun cls d _ H => E cls d H) := L2N.takes_of rfl rfl rfl rfl
  have pn : PassesOwn (model P w) (cxOf (L2N.CX P w) P w K mg base ["tables", "menu", "starts", "most"] "listed" (defScope s_plisted) f cdv A outer s H E).A (cxOf (L2N.CX P w) P w K mg base ["tables", "menu", "starts", "most"] "listed" (defScope s_plisted) f cdv A outer s H E).env (cxOf (L2N.CX P w) P w K mg base ["tables", "menu", "starts", "most"] "listed" (defScope s_plisted) f cdv A outer s H E).xe := passes_of rfl
  unfold m_plisted
  exact mss_cons (ms_expr (me_fz (mf_call h_pheld_menu hr (by decide) tk (ma_cons (me_var (i := 0) rfl (.inl v_plisted_0)) (ma_cons (me_var (i := 1) rfl (.inl v_plisted_1)) (ma_cons (me_var (i := 2) rfl (.inl v_plisted_2)) (ma_nil)))) (lng_cons (lng_cons (lng_cons lng_nil))) (hg := (g_plisted_held_menu _ _ _))))) (mss_one (ms_ret (mb_tuple B.tuple (ma_cons (me_fz (mf_call h_pall_states hr (by decide) tk (ma_cons (me_var (i := 0) rfl (.inl v_plisted_0)) (ma_cons (me_var (i := 1) rfl (.inl v_plisted_1)) (ma_cons (me_var (i := 2) rfl (.inl v_plisted_2)) (ma_cons (me_var (i := 3) rfl (.inl v_plisted_3)) (ma_nil))))) (lng_cons (lng_cons (lng_cons (lng_cons lng_nil)))) (hg := (g_plisted_all_states _ _ _)))) (ma_nil)) (hg := (g_plisted_tuple _ _ _)))))

abbrev s_pleast : Stmt := top 26
theorem sc_pleast : FnScope ["tables", "menu", "cases", "most", "pairs", "word", "state"] ["tables", "menu", "cases", "most"] (defScope s_pleast) := ⟨rfl, rfl, rfl, by decide +kernel, rfl, by decide +kernel, by decide +kernel⟩
theorem v_pleast_0 : (defScope s_pleast).names.lookup ("tables" : Str) = some NameKind.local := by decide +kernel
theorem v_pleast_1 : (defScope s_pleast).names.lookup ("menu" : Str) = some NameKind.local := by decide +kernel
theorem v_pleast_2 : (defScope s_pleast).names.lookup ("cases" : Str) = some NameKind.local := by decide +kernel
theorem v_pleast_3 : (defScope s_pleast).names.lookup ("most" : Str) = some NameKind.local := by decide +kernel
theorem v_pleast_4 : (defScope s_pleast).names.lookup ("pairs" : Str) = some NameKind.local := by decide +kernel
theorem v_pleast_5 : (defScope s_pleast).names.lookup ("word" : Str) = some NameKind.local := by decide +kernel
theorem v_pleast_6 : (defScope s_pleast).names.lookup ("state" : Str) = some NameKind.local := by decide +kernel
theorem g_pleast_starts_of (L a : Addr) (cd : Value) : (PyProof.Rows.envOfC "least" (defScope s_pleast) L a cd).kindOf ("starts_of" : Str) = some NameKind.globalImplicit := rfl
theorem g_pleast_listed (L a : Addr) (cd : Value) : (PyProof.Rows.envOfC "least" (defScope s_pleast) L a cd).kindOf ("listed" : Str) = some NameKind.globalImplicit := rfl
theorem g_pleast_does_all (L a : Addr) (cd : Value) : (PyProof.Rows.envOfC "least" (defScope s_pleast) L a cd).kindOf ("does_all" : Str) = some NameKind.globalImplicit := rfl
theorem ok_pleast {P : Program} {w : World} {K : PySem.W.Frag} {mg : Str → Option Value} {base : Heap} {f : Addr} {fd : FuncData} (F : Fun K "least" "least" s_pleast f fd) (B : Bn mg) (h_plisted : Fd P w K mg base "listed" 10 ["tables", "menu", "starts", "most"] [] f_plisted) (h_pstarts_of : Fd P w K mg base "starts_of" 2 ["cases"] [] f_pstarts_of) (h_pdoes_all : Fd P w K mg base "does_all" 2 ["state", "cases"] [] f_pdoes_all)    :
    FnOk P w K mg base (L2N.CX P w) 12 f fd ["tables", "menu", "cases", "most"] (spF K mg 4 [] f_pleast) := by
  refine fn_ok F sc_pleast (by decide) (by decide) fun cdv A outer s H E hr => ?_
  have nd := sc_pleast.nd
  have tk : L2N.Takes (cxOf (L2N.CX P w) P w K mg base ["tables", "menu", "cases", "most", "pairs", "word", "state"] "least" (defScope s_pleast) f cdv A outer s H E) (fun cls d _ H => E cls d H) := L2N.takes_of rfl rfl rfl rfl
  have pn : PassesOwn (model P w) (cxOf (L2N.CX P w) P w K mg base ["tables", "menu", "cases", "most", "pairs", "word", "state"] "least" (defScope s_pleast) f cdv A outer s H E).A (cxOf (L2N.CX P w) P w K mg base ["tables", "menu", "cases", "most", "pairs", "word", "state"] "least" (defScope s_pleast) f cdv A outer s H E).env (cxOf (L2N.CX P w) P w K mg base ["tables", "menu", "cases", "most", "pairs", "word", "state"] "least" (defScope s_pleast) f cdv A outer s H E).xe := passes_of rfl
  unfold m_pleast
  exact mss_cons (ms_set (i := 4) nd rfl (.inl v_pleast_4) (me_fz (mf_call h_plisted hr (by decide) tk (ma_cons (me_var (i := 0) rfl (.inl v_pleast_0)) (ma_cons (me_var (i := 1) rfl (.inl v_pleast_1)) (ma_cons (me_fz (mf_call h_pstarts_of hr (by decide) tk (ma_cons (me_var (i := 2) rfl (.inl v_pleast_2)) (ma_nil)) (lng_cons lng_nil) (hg := (g_pleast_starts_of _ _ _)))) (ma_cons (me_var (i := 3) rfl (.inl v_pleast_3)) (ma_nil))))) (lng_cons (lng_cons (lng_cons (lng_cons lng_nil)))) (hg := (g_pleast_listed _ _ _))))) (mss_cons (ms_for pn rfl (mi_val (me_var (i := 4) rfl (.inl v_pleast_4))) (mg_tup rfl (mgs_cons (mg_name (i := 5) nd rfl (.inl v_pleast_5)) (mgs_cons (mg_name (i := 6) nd rfl (.inl v_pleast_6)) (mgs_nil)))) (mss_one (ms_if (mt_val (me_fz (mf_call h_pdoes_all hr (by decide) tk (ma_cons (me_var (i := 6) rfl (.inl v_pleast_6)) (ma_cons (me_var (i := 2) rfl (.inl v_pleast_2)) (ma_nil))) (lng_cons (lng_cons lng_nil)) (hg := (g_pleast_does_all _ _ _))))) (mss_one (ms_ret (me_tup (ma_cons (me_str) (ma_cons (me_var (i := 5) rfl (.inl v_pleast_5)) (ma_nil)))))) (mss_nil)))) (mss_one (ms_ret (me_tup (ma_cons (me_str) (ma_cons (me_var (i := 4) rfl (.inl v_pleast_4)) (ma_nil)))))))

abbrev s_pleast_holds : Stmt := top 31
theorem sc_pleast_holds : FnScope ["tables", "menu", "cases", "most", "thing", "starts", "word", "state"] ["tables", "menu", "cases", "most", "thing"] (defScope s_pleast_holds) := ⟨rfl, rfl, rfl, by decide +kernel, rfl, by decide +kernel, by decide +kernel⟩
theorem v_pleast_holds_0 : (defScope s_pleast_holds).names.lookup ("tables" : Str) = some NameKind.local := by decide +kernel
theorem v_pleast_holds_1 : (defScope s_pleast_holds).names.lookup ("menu" : Str) = some NameKind.local := by decide +kernel
theorem v_pleast_holds_2 : (defScope s_pleast_holds).names.lookup ("cases" : Str) = some NameKind.cell := by decide +kernel
theorem v_pleast_holds_3 : (defScope s_pleast_holds).names.lookup ("most" : Str) = some NameKind.local := by decide +kernel
theorem v_pleast_holds_4 : (defScope s_pleast_holds).names.lookup ("thing" : Str) = some NameKind.local := by decide +kernel
theorem v_pleast_holds_5 : (defScope s_pleast_holds).names.lookup ("starts" : Str) = some NameKind.local := by decide +kernel
theorem g_pleast_holds_starts_of (L a : Addr) (cd : Value) : (PyProof.Rows.envOfC "least_holds" (defScope s_pleast_holds) L a cd).kindOf ("starts_of" : Str) = some NameKind.globalImplicit := rfl
theorem g_pleast_holds_held_menu (L a : Addr) (cd : Value) : (PyProof.Rows.envOfC "least_holds" (defScope s_pleast_holds) L a cd).kindOf ("held_menu" : Str) = some NameKind.globalImplicit := rfl
theorem g_pleast_holds_tuple (L a : Addr) (cd : Value) : (PyProof.Rows.envOfC "least_holds" (defScope s_pleast_holds) L a cd).kindOf ("tuple" : Str) = some NameKind.globalImplicit := rfl
theorem g_pleast_holds_isinstance (L a : Addr) (cd : Value) : (PyProof.Rows.envOfC "least_holds" (defScope s_pleast_holds) L a cd).kindOf ("isinstance" : Str) = some NameKind.globalImplicit := rfl
theorem g_pleast_holds_len (L a : Addr) (cd : Value) : (PyProof.Rows.envOfC "least_holds" (defScope s_pleast_holds) L a cd).kindOf ("len" : Str) = some NameKind.globalImplicit := rfl
theorem g_pleast_holds_str (L a : Addr) (cd : Value) : (PyProof.Rows.envOfC "least_holds" (defScope s_pleast_holds) L a cd).kindOf ("str" : Str) = some NameKind.globalImplicit := rfl
theorem g_pleast_holds_is_word (L a : Addr) (cd : Value) : (PyProof.Rows.envOfC "least_holds" (defScope s_pleast_holds) L a cd).kindOf ("is_word" : Str) = some NameKind.globalImplicit := rfl
theorem g_pleast_holds_least (L a : Addr) (cd : Value) : (PyProof.Rows.envOfC "least_holds" (defScope s_pleast_holds) L a cd).kindOf ("least" : Str) = some NameKind.globalImplicit := rfl
theorem g_pleast_holds_pairs_right (L a : Addr) (cd : Value) : (PyProof.Rows.envOfC "least_holds" (defScope s_pleast_holds) L a cd).kindOf ("pairs_right" : Str) = some NameKind.globalImplicit := rfl
theorem g_pleast_holds_any (L a : Addr) (cd : Value) : (PyProof.Rows.envOfC "least_holds" (defScope s_pleast_holds) L a cd).kindOf ("any" : Str) = some NameKind.globalImplicit := rfl
theorem g_pleast_holds_pairs_shut (L a : Addr) (cd : Value) : (PyProof.Rows.envOfC "least_holds" (defScope s_pleast_holds) L a cd).kindOf ("pairs_shut" : Str) = some NameKind.globalImplicit := rfl
theorem ok_pleast_holds {P : Program} {w : World} {K : PySem.W.Frag} {mg : Str → Option Value} {base : Heap} {f : Addr} {fd : FuncData} (F : Fun K "least_holds" "least_holds" s_pleast_holds f fd) (B : Bn mg) (h_pstarts_of : Fd P w K mg base "starts_of" 2 ["cases"] [] f_pstarts_of) (h_pheld_menu : Fd P w K mg base "held_menu" 8 ["tables", "menu", "starts"] [] f_pheld_menu) (h_pis_word : Fd P w K mg base "is_word" 2 ["thing", "many", "most"] [] f_pis_word) (h_pleast : Fd P w K mg base "least" 12 ["tables", "menu", "cases", "most"] [] f_pleast) (h_ppairs_right : Fd P w K mg base "pairs_right" 12 ["tables", "menu", "starts", "most", "pairs"] [] f_ppairs_right) (h_pdoes_all : Fd P w K mg base "does_all" 2 ["state", "cases"] [] f_pdoes_all) (h_ppairs_shut : Fd P w K mg base "pairs_shut" 8 ["tables", "menu", "most", "pairs"] [] f_ppairs_shut)    :
    FnOk P w K mg base (L2N.CX P w) 14 f fd ["tables", "menu", "cases", "most", "thing"] (spF K mg 5 [] f_pleast_holds) := by
  refine fn_ok F sc_pleast_holds (by decide) (by decide) fun cdv A outer s H E hr => ?_
  have nd := sc_pleast_holds.nd
  have tk : L2N.Takes (cxOf (L2N.CX P w) P w K mg base ["tables", "menu", "cases", "most", "thing", "starts", "word", "state"] "least_holds" (defScope s_pleast_holds) f cdv A outer s H E) (fun cls d _ H => E cls d H) := L2N.takes_of rfl rfl rfl rfl
  have pn : PassesOwn (model P w) (cxOf (L2N.CX P w) P w K mg base ["tables", "menu", "cases", "most", "thing", "starts", "word", "state"] "least_holds" (defScope s_pleast_holds) f cdv A outer s H E).A (cxOf (L2N.CX P w) P w K mg base ["tables", "menu", "cases", "most", "thing", "starts", "word", "state"] "least_holds" (defScope s_pleast_holds) f cdv A outer s H E).env (cxOf (L2N.CX P w) P w K mg base ["tables", "menu", "cases", "most", "thing", "starts", "word", "state"] "least_holds" (defScope s_pleast_holds) f cdv A outer s H E).xe := passes_of rfl
  unfold m_pleast_holds
  exact mss_cons (ms_set (i := 5) nd rfl (.inl v_pleast_holds_5) (me_fz (mf_call h_pstarts_of hr (by decide) tk (ma_cons (me_var (i := 2) rfl (.inr (.inl v_pleast_holds_2))) (ma_nil)) (lng_cons lng_nil) (hg := (g_pleast_holds_starts_of _ _ _))))) (mss_cons (ms_expr (me_fz (mf_call h_pheld_menu hr (by decide) tk (ma_cons (me_var (i := 0) rfl (.inl v_pleast_holds_0)) (ma_cons (me_var (i := 1) rfl (.inl v_pleast_holds_1)) (ma_cons (me_var (i := 5) rfl (.inl v_pleast_holds_5)) (ma_nil)))) (lng_cons (lng_cons (lng_cons lng_nil))) (hg := (g_pleast_holds_held_menu _ _ _))))) (mss_cons (ms_if (PW.pt (mw_or (mt_not (mt_val (mb_isi B.isinstance (ma_cons (me_var (i := 4) rfl (.inl v_pleast_holds_4)) (ma_cons (me_bltn B.tuple (by decide +kernel) (w := .ty "tuple") rfl (hg := (g_pleast_holds_tuple _ _ _))) ma_nil)) (hg := (g_pleast_holds_isinstance _ _ _))))) (mw_or (mt_cmp (op_neM hr.units) os_ne (mb_len B.len (ma_cons (me_var (i := 4) rfl (.inl v_pleast_holds_4)) (ma_nil)) (hg := (g_pleast_holds_len _ _ _))) (me_int) (nomark _)) (mw_one_or (mt_not (mt_val (mb_isi B.isinstance (ma_cons (me_ix (me_var (i := 4) rfl (.inl v_pleast_holds_4)) (me_int)) (ma_cons (me_bltn B.str (by decide +kernel) (w := .ty "str") rfl (hg := (g_pleast_holds_str _ _ _))) ma_nil)) (hg := (g_pleast_holds_isinstance _ _ _))))))))) (mss_one (ms_ret (me_bl))) (mss_nil)) (mss_cons (ms_if (mt_cmp (op_eqM hr.units) os_eq (me_ix (me_var (i := 4) rfl (.inl v_pleast_holds_4)) (me_int)) (me_str) (nomark _)) (mss_one (ms_ret (me_and (me_fz (mf_call h_pis_word hr (by decide) tk (ma_cons (me_ix (me_var (i := 4) rfl (.inl v_pleast_holds_4)) (me_int)) (ma_cons (mb_len B.len (ma_cons (me_var (i := 1) rfl (.inl v_pleast_holds_1)) (ma_nil)) (hg := (g_pleast_holds_len _ _ _))) (ma_cons (me_var (i := 3) rfl (.inl v_pleast_holds_3)) (ma_nil)))) (lng_cons (lng_cons (lng_cons lng_nil))) (hg := (g_pleast_holds_is_word _ _ _)))) (me_one (me_cmp (op_eqM hr.units) os_eq (me_fz (mf_call h_pleast hr (by decide) tk (ma_cons (me_var (i := 0) rfl (.inl v_pleast_holds_0)) (ma_cons (me_var (i := 1) rfl (.inl v_pleast_holds_1)) (ma_cons (me_var (i := 2) rfl (.inr (.inl v_pleast_holds_2))) (ma_cons (me_var (i := 3) rfl (.inl v_pleast_holds_3)) (ma_nil))))) (lng_cons (lng_cons (lng_cons (lng_cons lng_nil)))) (hg := (g_pleast_holds_least _ _ _)))) (me_var (i := 4) rfl (.inl v_pleast_holds_4)) (nomark _)))))) (mss_nil)) (mss_cons (ms_if (PW.pt (mw_or (mt_cmp (op_neM hr.units) os_ne (me_ix (me_var (i := 4) rfl (.inl v_pleast_holds_4)) (me_int)) (me_str) (nomark _)) (mw_one_or (mt_not (mt_val (me_fz (mf_call h_ppairs_right hr (by decide) tk (ma_cons (me_var (i := 0) rfl (.inl v_pleast_holds_0)) (ma_cons (me_var (i := 1) rfl (.inl v_pleast_holds_1)) (ma_cons (me_var (i := 5) rfl (.inl v_pleast_holds_5)) (ma_cons (me_var (i := 3) rfl (.inl v_pleast_holds_3)) (ma_cons (me_ix (me_var (i := 4) rfl (.inl v_pleast_holds_4)) (me_int)) (ma_nil)))))) (lng_cons (lng_cons (lng_cons (lng_cons (lng_cons lng_nil))))) (hg := (g_pleast_holds_pairs_right _ _ _))))))))) (mss_one (ms_ret (me_bl))) (mss_nil)) (mss_cons (ms_if (mt_val (mb_any rfl B.any (ma_cons (me_fz (mo_lc (own := [("word", 6), ("state", 7)]) (g := .tp [6, 7]) rfl nd (mi_val (me_ix (me_var (i := 4) rfl (.inl v_pleast_holds_4)) (me_int))) (blkOk_at (N' := ["tables", "menu", "cases", "most", "thing", "starts", "word", "state"]) (sc' := defScope s_pleast_holds) rfl rfl (by decide +kernel)) (fun _ _ _ _ _ => pg_tup rfl (pgs_cons (pg_name (i := 6) nd rfl (Or.inl rfl)) (pgs_cons (pg_name (i := 7) nd rfl (Or.inl rfl)) (pgs_nil)))) (fun _ _ _ _ _ => mts_nil) (fun _ _ _ _ _ => me_fz (mf_call0 h_pdoes_all hr (by decide) (ma_cons (me_var (i := 7) rfl (.inl rfl)) (ma_cons (me_var (i := 2) rfl (by first | exact .inr (.inr rfl) | exact .inl rfl | exact .inr (.inl rfl))) (ma_nil))) (lng_cons (lng_cons lng_nil)) (hg := rfl))) (hbs := hbs_of rfl))) (ma_nil)) (hg := (g_pleast_holds_any _ _ _)))) (mss_one (ms_ret (me_bl))) (mss_nil)) (mss_one (ms_ret (me_fz (mf_call h_ppairs_shut hr (by decide) tk (ma_cons (me_var (i := 0) rfl (.inl v_pleast_holds_0)) (ma_cons (me_var (i := 1) rfl (.inl v_pleast_holds_1)) (ma_cons (me_var (i := 3) rfl (.inl v_pleast_holds_3)) (ma_cons (me_ix (me_var (i := 4) rfl (.inl v_pleast_holds_4)) (me_int)) (ma_nil))))) (lng_cons (lng_cons (lng_cons (lng_cons lng_nil)))) (hg := (g_pleast_holds_pairs_shut _ _ _)))))))))))

abbrev s_lsome_table : Stmt := top 38
theorem sc_lsome_table : FnScope ["_law_cell_here", "_law_salt", "_law_way", "_law_first", "_law_second", "_law_third", "_law_byte"] ["_law_cell_here", "_law_salt"] (defScope s_lsome_table) := ⟨rfl, rfl, rfl, by decide +kernel, rfl, by decide +kernel, by decide +kernel⟩
theorem v_lsome_table_0 : (defScope s_lsome_table).names.lookup ("_law_cell_here" : Str) = some NameKind.local := by decide +kernel
theorem v_lsome_table_1 : (defScope s_lsome_table).names.lookup ("_law_salt" : Str) = some NameKind.local := by decide +kernel
theorem v_lsome_table_2 : (defScope s_lsome_table).names.lookup ("_law_way" : Str) = some NameKind.local := by decide +kernel
theorem v_lsome_table_3 : (defScope s_lsome_table).names.lookup ("_law_first" : Str) = some NameKind.cell := by decide +kernel
theorem v_lsome_table_4 : (defScope s_lsome_table).names.lookup ("_law_second" : Str) = some NameKind.cell := by decide +kernel
theorem v_lsome_table_5 : (defScope s_lsome_table).names.lookup ("_law_third" : Str) = some NameKind.cell := by decide +kernel
theorem g_lsome_table_law_draws (L a : Addr) (cd : Value) : (PyProof.Rows.envOfC "_law_some_table" (defScope s_lsome_table) L a cd).kindOf ("_law_draws" : Str) = some NameKind.globalImplicit := rfl
theorem g_lsome_table_range (L a : Addr) (cd : Value) : (PyProof.Rows.envOfC "_law_some_table" (defScope s_lsome_table) L a cd).kindOf ("range" : Str) = some NameKind.globalImplicit := rfl
theorem g_lsome_table_tuple (L a : Addr) (cd : Value) : (PyProof.Rows.envOfC "_law_some_table" (defScope s_lsome_table) L a cd).kindOf ("tuple" : Str) = some NameKind.globalImplicit := rfl
theorem ok_lsome_table {P : Program} {w : World} {K : PySem.W.Frag} {mg : Str → Option Value} {base : Heap} {f : Addr} {fd : FuncData} (F : Fun K "_law_some_table" "_law_some_table" s_lsome_table f fd) (B : Bn mg) (h_ldraws : Fd P w K mg base "_law_draws" 4 ["_law_cell_here", "_law_salt", "_law_widths"] [] f_ldraws)    :
    FnOk P w K mg base (L2N.CX P w) 6 f fd ["_law_cell_here", "_law_salt"] (spF K mg 2 [] f_lsome_table) := by
  refine fn_ok F sc_lsome_table (by decide) (by decide) fun cdv A outer s H E hr => ?_
  have nd := sc_lsome_table.nd
  have tk : L2N.Takes (cxOf (L2N.CX P w) P w K mg base ["_law_cell_here", "_law_salt", "_law_way", "_law_first", "_law_second", "_law_third", "_law_byte"] "_law_some_table" (defScope s_lsome_table) f cdv A outer s H E) (fun cls d _ H => E cls d H) := L2N.takes_of rfl rfl rfl rfl
  have pn : PassesOwn (model P w) (cxOf (L2N.CX P w) P w K mg base ["_law_cell_here", "_law_salt", "_law_way", "_law_first", "_law_second", "_law_third", "_law_byte"] "_law_some_table" (defScope s_lsome_table) f cdv A outer s H E).A (cxOf (L2N.CX P w) P w K mg base ["_law_cell_here", "_law_salt", "_law_way", "_law_first", "_law_second", "_law_third", "_law_byte"] "_law_some_table" (defScope s_lsome_table) f cdv A outer s H E).env (cxOf (L2N.CX P w) P w K mg base ["_law_cell_here", "_law_salt", "_law_way", "_law_first", "_law_second", "_law_third", "_law_byte"] "_law_some_table" (defScope s_lsome_table) f cdv A outer s H E).xe := passes_of rfl
  unfold m_lsome_table
  exact mss_cons (ms_asg (me_fz (mf_call h_ldraws hr (by decide) tk (ma_cons (me_var (i := 0) rfl (.inl v_lsome_table_0)) (ma_cons (me_var (i := 1) rfl (.inl v_lsome_table_1)) (ma_cons (me_lst (ma_cons (me_int) (ma_cons (me_int) (ma_cons (me_int) (ma_cons (me_int) (ma_nil)))))) (ma_nil)))) (lng_cons (lng_cons (lng_cons lng_nil))) (hg := (g_lsome_table_law_draws _ _ _)))) (mg_tup rfl (mgs_cons (mg_name (i := 2) nd rfl (.inl v_lsome_table_2)) (mgs_cons (mg_name (i := 3) nd rfl (.inr v_lsome_table_3)) (mgs_cons (mg_name (i := 4) nd rfl (.inr v_lsome_table_4)) (mgs_cons (mg_name (i := 5) nd rfl (.inr v_lsome_table_5)) (mgs_nil))))))) (mss_cons (ms_if (mt_cmp (op_eqM hr.units) os_eq (me_var (i := 2) rfl (.inl v_lsome_table_2)) (me_int) (nomark _)) (mss_one (ms_ret (mb_tuple B.tuple (ma_cons (me_fz (mo_lc (own := [("_law_byte", 6)]) (g := .nm 6) rfl nd (mi_r1 B.range (ma_cons (me_int) (ma_nil)) (hg := (g_lsome_table_range _ _ _))) (blkOk_at (N' := ["_law_cell_here", "_law_salt", "_law_way", "_law_first", "_law_second", "_law_third", "_law_byte"]) (sc' := defScope s_lsome_table) rfl rfl (by decide +kernel)) (fun _ _ _ _ _ => pg_name (i := 6) nd rfl (Or.inl rfl)) (fun _ _ _ _ _ => mts_nil) (fun _ _ _ _ _ => me_mod (me_add (me_var (i := 6) rfl (.inl rfl)) (me_var (i := 3) rfl (by first | exact .inr (.inr rfl) | exact .inl rfl | exact .inr (.inl rfl)))) (me_int)) (hbs := hbs_of rfl))) (ma_nil)) (hg := (g_lsome_table_tuple _ _ _))))) (mss_nil)) (mss_cons (ms_if (mt_cmp (op_eqM hr.units) os_eq (me_var (i := 2) rfl (.inl v_lsome_table_2)) (me_int) (nomark _)) (mss_one (ms_ret (mb_tuple B.tuple (ma_cons (me_fz (mo_lc (own := [("_law_byte", 6)]) (g := .nm 6) rfl nd (mi_r1 B.range (ma_cons (me_int) (ma_nil)) (hg := (g_lsome_table_range _ _ _))) (blkOk_at (N' := ["_law_cell_here", "_law_salt", "_law_way", "_law_first", "_law_second", "_law_third", "_law_byte"]) (sc' := defScope s_lsome_table) rfl rfl (by decide +kernel)) (fun _ _ _ _ _ => pg_name (i := 6) nd rfl (Or.inl rfl)) (fun _ _ _ _ _ => mts_nil) (fun _ _ _ _ _ => me_sub (me_int) (me_var (i := 6) rfl (.inl rfl))) (hbs := hbs_of rfl))) (ma_nil)) (hg := (g_lsome_table_tuple _ _ _))))) (mss_nil)) (mss_one (ms_ret (mb_tuple B.tuple (ma_cons (me_fz (mo_lc (own := [("_law_byte", 6)]) (g := .nm 6) rfl nd (mi_r1 B.range (ma_cons (me_int) (ma_nil)) (hg := (g_lsome_table_range _ _ _))) (blkOk_at (N' := ["_law_cell_here", "_law_salt", "_law_way", "_law_first", "_law_second", "_law_third", "_law_byte"]) (sc' := defScope s_lsome_table) rfl rfl (by decide +kernel)) (fun _ _ _ _ _ => pg_name (i := 6) nd rfl (Or.inl rfl)) (fun _ _ _ _ _ => mts_nil) (fun _ _ _ _ _ => me_mod (me_div (me_mod (me_add (me_add (me_mul (me_mul (me_var (i := 5) rfl (by first | exact .inr (.inr rfl) | exact .inl rfl | exact .inr (.inl rfl))) (me_var (i := 6) rfl (.inl rfl))) (me_var (i := 6) rfl (.inl rfl))) (me_mul (me_var (i := 4) rfl (by first | exact .inr (.inr rfl) | exact .inl rfl | exact .inr (.inl rfl))) (me_var (i := 6) rfl (.inl rfl)))) (me_var (i := 3) rfl (by first | exact .inr (.inr rfl) | exact .inl rfl | exact .inr (.inl rfl)))) (me_int)) (me_int)) (me_int)) (hbs := hbs_of rfl))) (ma_nil)) (hg := (g_lsome_table_tuple _ _ _)))))))

abbrev s_lwanted : Stmt := top 42
theorem sc_lwanted : FnScope ["_law_state", "_law_bytes_due", "_law_there", "_law_byte"] ["_law_state", "_law_bytes_due"] (defScope s_lwanted) := ⟨rfl, rfl, rfl, by decide +kernel, rfl, by decide +kernel, by decide +kernel⟩
theorem v_lwanted_0 : (defScope s_lwanted).names.lookup ("_law_state" : Str) = some NameKind.local := by decide +kernel
theorem v_lwanted_1 : (defScope s_lwanted).names.lookup ("_law_bytes_due" : Str) = some NameKind.local := by decide +kernel
theorem g_lwanted_zip (L a : Addr) (cd : Value) : (PyProof.Rows.envOfC "_law_wanted" (defScope s_lwanted) L a cd).kindOf ("zip" : Str) = some NameKind.globalImplicit := rfl
theorem g_lwanted_all (L a : Addr) (cd : Value) : (PyProof.Rows.envOfC "_law_wanted" (defScope s_lwanted) L a cd).kindOf ("all" : Str) = some NameKind.globalImplicit := rfl
theorem ok_lwanted {P : Program} {w : World} {K : PySem.W.Frag} {mg : Str → Option Value} {base : Heap} {f : Addr} {fd : FuncData} (F : Fun K "_law_wanted" "_law_wanted" s_lwanted f fd) (B : Bn mg)     :
    FnOk P w K mg base (L2N.CX P w) 2 f fd ["_law_state", "_law_bytes_due"] (spF K mg 2 [] f_lwanted) := by
  refine fn_ok F sc_lwanted (by decide) (by decide) fun cdv A outer s H E hr => ?_
  have nd := sc_lwanted.nd
  have tk : L2N.Takes (cxOf (L2N.CX P w) P w K mg base ["_law_state", "_law_bytes_due", "_law_there", "_law_byte"] "_law_wanted" (defScope s_lwanted) f cdv A outer s H E) (fun cls d _ H => E cls d H) := L2N.takes_of rfl rfl rfl rfl
  have pn : PassesOwn (model P w) (cxOf (L2N.CX P w) P w K mg base ["_law_state", "_law_bytes_due", "_law_there", "_law_byte"] "_law_wanted" (defScope s_lwanted) f cdv A outer s H E).A (cxOf (L2N.CX P w) P w K mg base ["_law_state", "_law_bytes_due", "_law_there", "_law_byte"] "_law_wanted" (defScope s_lwanted) f cdv A outer s H E).env (cxOf (L2N.CX P w) P w K mg base ["_law_state", "_law_bytes_due", "_law_there", "_law_byte"] "_law_wanted" (defScope s_lwanted) f cdv A outer s H E).xe := passes_of rfl
  unfold m_lwanted
  exact mss_one (ms_ret (mb_all rfl B.all (ma_cons (me_fz (mo_lc (own := [("_law_there", 2), ("_law_byte", 3)]) (g := .tp [2, 3]) rfl nd (mi_zip B.zip (ma_cons (me_var (i := 0) rfl (.inl v_lwanted_0)) (ma_cons (me_var (i := 1) rfl (.inl v_lwanted_1)) (ma_nil))) (hg := (g_lwanted_zip _ _ _))) (blkOk_at (N' := ["_law_state", "_law_bytes_due", "_law_there", "_law_byte"]) (sc' := defScope s_lwanted) rfl rfl (by decide +kernel)) (fun _ _ _ _ _ => pg_tup rfl (pgs_cons (pg_name (i := 2) nd rfl (Or.inl rfl)) (pgs_cons (pg_name (i := 3) nd rfl (Or.inl rfl)) (pgs_nil)))) (fun _ _ _ _ _ => mts_nil) (fun _ _ _ _ _ => me_cmp (op_eqM hr.units) os_eq (me_ix (me_ix (me_var (i := 2) rfl (.inl rfl)) (me_int)) (me_int)) (me_var (i := 3) rfl (.inl rfl)) (nomark _)) (hbs := hbs_of rfl))) (ma_nil)) (hg := (g_lwanted_all _ _ _))))

abbrev s_lrun : Stmt := top 36
theorem sc_lrun : FnScope ["_law_program", "_law_cells", "_law_mark", "_law_row", "_law_tables", "_law_rows", "_law_word", "_law_a", "_law_total"] ["_law_program", "_law_cells", "_law_mark"] (defScope s_lrun) := ⟨rfl, rfl, rfl, by decide +kernel, rfl, by decide +kernel, by decide +kernel⟩
theorem v_lrun_0 : (defScope s_lrun).names.lookup ("_law_program" : Str) = some NameKind.local := by decide +kernel
theorem v_lrun_1 : (defScope s_lrun).names.lookup ("_law_cells" : Str) = some NameKind.local := by decide +kernel
theorem v_lrun_2 : (defScope s_lrun).names.lookup ("_law_mark" : Str) = some NameKind.local := by decide +kernel
theorem v_lrun_3 : (defScope s_lrun).names.lookup ("_law_row" : Str) = some NameKind.local := by decide +kernel
theorem v_lrun_4 : (defScope s_lrun).names.lookup ("_law_tables" : Str) = some NameKind.local := by decide +kernel
theorem v_lrun_5 : (defScope s_lrun).names.lookup ("_law_rows" : Str) = some NameKind.local := by decide +kernel
theorem v_lrun_6 : (defScope s_lrun).names.lookup ("_law_word" : Str) = some NameKind.local := by decide +kernel
theorem v_lrun_7 : (defScope s_lrun).names.lookup ("_law_a" : Str) = some NameKind.local := by decide +kernel
theorem v_lrun_8 : (defScope s_lrun).names.lookup ("_law_total" : Str) = some NameKind.local := by decide +kernel
theorem g_lrun_list (L a : Addr) (cd : Value) : (PyProof.Rows.envOfC "_law_run" (defScope s_lrun) L a cd).kindOf ("list" : Str) = some NameKind.globalImplicit := rfl
theorem g_lrun_int (L a : Addr) (cd : Value) : (PyProof.Rows.envOfC "_law_run" (defScope s_lrun) L a cd).kindOf ("int" : Str) = some NameKind.globalImplicit := rfl
theorem ok_lrun {P : Program} {w : World} {K : PySem.W.Frag} {mg : Str → Option Value} {base : Heap} {f : Addr} {fd : FuncData} (F : Fun K "_law_run" "_law_run" s_lrun f fd) (B : Bn mg)     :
    FnOk P w K mg base (L2N.CX P w) 2 f fd ["_law_program", "_law_cells", "_law_mark"] (spF K mg 3 [] f_lrun) := by
  refine fn_ok F sc_lrun (by decide) (by decide) fun cdv A outer s H E hr => ?_
  have nd := sc_lrun.nd
  have tk : L2N.Takes (cxOf (L2N.CX P w) P w K mg base ["_law_program", "_law_cells", "_law_mark", "_law_row", "_law_tables", "_law_rows", "_law_word", "_law_a", "_law_total"] "_law_run" (defScope s_lrun) f cdv A outer s H E) (fun cls d _ H => E cls d H) := L2N.takes_of rfl rfl rfl rfl
  have pn : PassesOwn (model P w) (cxOf (L2N.CX P w) P w K mg base ["_law_program", "_law_cells", "_law_mark", "_law_row", "_law_tables", "_law_rows", "_law_word", "_law_a", "_law_total"] "_law_run" (defScope s_lrun) f cdv A outer s H E).A (cxOf (L2N.CX P w) P w K mg base ["_law_program", "_law_cells", "_law_mark", "_law_row", "_law_tables", "_law_rows", "_law_word", "_law_a", "_law_total"] "_law_run" (defScope s_lrun) f cdv A outer s H E).env (cxOf (L2N.CX P w) P w K mg base ["_law_program", "_law_cells", "_law_mark", "_law_row", "_law_tables", "_law_rows", "_law_word", "_law_a", "_law_total"] "_law_run" (defScope s_lrun) f cdv A outer s H E).xe := passes_of rfl
  unfold m_lrun
  exact mss_cons (ms_asg (me_var (i := 0) rfl (.inl v_lrun_0)) (mg_tup rfl (mgs_cons (mg_name (i := 4) nd rfl (.inl v_lrun_4)) (mgs_cons (mg_name (i := 5) nd rfl (.inl v_lrun_5)) (mgs_nil))))) (mss_cons (ms_setO (i := 1) nd rfl (.inl v_lrun_1) (mbo_list B.list (ma_cons (me_var (i := 1) rfl (.inl v_lrun_1)) (ma_nil)) (hg := (g_lrun_list _ _ _)))) (mss_cons (ms_for pn rfl (mi_val (me_var (i := 5) rfl (.inl v_lrun_5))) (mg_name (i := 3) nd rfl (.inl v_lrun_3)) (mss_cons (ms_set (i := 6) nd rfl (.inl v_lrun_6) (me_ix (me_var (i := 3) rfl (.inl v_lrun_3)) (me_int))) (mss_cons (ms_set (i := 7) nd rfl (.inl v_lrun_7) (me_ix (me_var (i := 3) rfl (.inl v_lrun_3)) (me_int))) (mss_one (ms_if (mt_cmp (op_eqM hr.units) os_eq (me_var (i := 6) rfl (.inl v_lrun_6)) (me_str) (nomark _)) (mss_one (ms_setIx (i := 1) rfl (.inl v_lrun_1) (me_ixV (i := 1) rfl (.inl v_lrun_1) (me_ix (me_var (i := 3) rfl (.inl v_lrun_3)) (me_int))) (me_var (i := 7) rfl (.inl v_lrun_7)))) (mss_one (ms_if (mt_cmp (op_eqM hr.units) os_eq (me_var (i := 6) rfl (.inl v_lrun_6)) (me_str) (nomark _)) (mss_one (ms_setIx (i := 1) rfl (.inl v_lrun_1) (me_ix (me_ix (me_var (i := 4) rfl (.inl v_lrun_4)) (me_ix (me_var (i := 3) rfl (.inl v_lrun_3)) (me_int))) (me_ixV (i := 1) rfl (.inl v_lrun_1) (me_var (i := 7) rfl (.inl v_lrun_7)))) (me_var (i := 7) rfl (.inl v_lrun_7)))) (mss_one (ms_if (PW.pt (mw_or (mt_cmp (op_eqM hr.units) os_eq (me_var (i := 6) rfl (.inl v_lrun_6)) (me_str) (nomark _)) (mw_one_or (mt_cmp (op_eqM hr.units) os_eq (me_var (i := 6) rfl (.inl v_lrun_6)) (me_str) (nomark _))))) (mss_cons (ms_set (i := 8) nd rfl (.inl v_lrun_8) (me_add (me_add (me_ixV (i := 1) rfl (.inl v_lrun_1) (me_var (i := 7) rfl (.inl v_lrun_7))) (me_ixV (i := 1) rfl (.inl v_lrun_1) (me_ix (me_var (i := 3) rfl (.inl v_lrun_3)) (me_int)))) (me_mul (me_var (i := 2) rfl (.inl v_lrun_2)) (mb_int B.int (ma_cons (me_cmp (op_eqM hr.units) os_eq (me_var (i := 6) rfl (.inl v_lrun_6)) (me_str) (nomark _)) (ma_nil)) (hg := (g_lrun_int _ _ _)))))) (mss_cons (ms_setIx (i := 1) rfl (.inl v_lrun_1) (me_mod (me_var (i := 8) rfl (.inl v_lrun_8)) (me_int)) (me_var (i := 7) rfl (.inl v_lrun_7))) (mss_one (ms_set (i := 2) nd rfl (.inl v_lrun_2) (me_div (me_var (i := 8) rfl (.inl v_lrun_8)) (me_int)))))) (mss_one (ms_if (mt_cmp (op_eqM hr.units) os_eq (me_var (i := 6) rfl (.inl v_lrun_6)) (me_str) (nomark _)) (mss_one (ms_setIx (i := 1) rfl (.inl v_lrun_1) (me_ix (me_var (i := 3) rfl (.inl v_lrun_3)) (me_int)) (me_var (i := 7) rfl (.inl v_lrun_7)))) (mss_one (ms_if (mt_cmp (op_eqM hr.units) os_eq (me_var (i := 6) rfl (.inl v_lrun_6)) (me_str) (nomark _)) (mss_one (ms_setIx (i := 1) rfl (.inl v_lrun_1) (me_bitand (me_ixV (i := 1) rfl (.inl v_lrun_1) (me_var (i := 7) rfl (.inl v_lrun_7))) (me_ixV (i := 1) rfl (.inl v_lrun_1) (me_ix (me_var (i := 3) rfl (.inl v_lrun_3)) (me_int)))) (me_var (i := 7) rfl (.inl v_lrun_7)))) (mss_one (ms_if (mt_cmp (op_eqM hr.units) os_eq (me_var (i := 6) rfl (.inl v_lrun_6)) (me_str) (nomark _)) (mss_one (ms_setIx (i := 1) rfl (.inl v_lrun_1) (me_bitor (me_ixV (i := 1) rfl (.inl v_lrun_1) (me_var (i := 7) rfl (.inl v_lrun_7))) (me_ixV (i := 1) rfl (.inl v_lrun_1) (me_ix (me_var (i := 3) rfl (.inl v_lrun_3)) (me_int)))) (me_var (i := 7) rfl (.inl v_lrun_7)))) (mss_one (ms_if (mt_cmp (op_eqM hr.units) os_eq (me_var (i := 6) rfl (.inl v_lrun_6)) (me_str) (nomark _)) (mss_cons (ms_set (i := 8) nd rfl (.inl v_lrun_8) (me_add (me_mul (me_int) (me_ixV (i := 1) rfl (.inl v_lrun_1) (me_var (i := 7) rfl (.inl v_lrun_7)))) (me_var (i := 2) rfl (.inl v_lrun_2)))) (mss_cons (ms_setIx (i := 1) rfl (.inl v_lrun_1) (me_mod (me_var (i := 8) rfl (.inl v_lrun_8)) (me_int)) (me_var (i := 7) rfl (.inl v_lrun_7))) (mss_one (ms_set (i := 2) nd rfl (.inl v_lrun_2) (me_div (me_var (i := 8) rfl (.inl v_lrun_8)) (me_int)))))) (mss_one (ms_if (mt_cmp (op_eqM hr.units) os_eq (me_var (i := 6) rfl (.inl v_lrun_6)) (me_str) (nomark _)) (mss_cons (ms_set (i := 8) nd rfl (.inl v_lrun_8) (me_add (me_ixV (i := 1) rfl (.inl v_lrun_1) (me_var (i := 7) rfl (.inl v_lrun_7))) (me_mul (me_int) (me_var (i := 2) rfl (.inl v_lrun_2))))) (mss_cons (ms_setIx (i := 1) rfl (.inl v_lrun_1) (me_div (me_var (i := 8) rfl (.inl v_lrun_8)) (me_int)) (me_var (i := 7) rfl (.inl v_lrun_7))) (mss_one (ms_set (i := 2) nd rfl (.inl v_lrun_2) (me_mod (me_var (i := 8) rfl (.inl v_lrun_8)) (me_int)))))) (mss_one (ms_set (i := 2) nd rfl (.inl v_lrun_2) (me_var (i := 7) rfl (.inl v_lrun_7))))))))))))))))))))))) (mss_one (ms_ret (me_tup (ma_cons (me_var (i := 1) rfl (.inl v_lrun_1)) (ma_cons (me_var (i := 2) rfl (.inl v_lrun_2)) (ma_nil))))))))

abbrev s_lbehind : Stmt := top 41
theorem sc_lbehind : FnScope ["_law_tables", "_law_row", "_law_state", "_law_found", "_law_cells", "_law_mark", "_law_there"] ["_law_tables", "_law_row", "_law_state"] (defScope s_lbehind) := ⟨rfl, rfl, rfl, by decide +kernel, rfl, by decide +kernel, by decide +kernel⟩
theorem v_lbehind_0 : (defScope s_lbehind).names.lookup ("_law_tables" : Str) = some NameKind.local := by decide +kernel
theorem v_lbehind_1 : (defScope s_lbehind).names.lookup ("_law_row" : Str) = some NameKind.local := by decide +kernel
theorem v_lbehind_2 : (defScope s_lbehind).names.lookup ("_law_state" : Str) = some NameKind.local := by decide +kernel
theorem v_lbehind_3 : (defScope s_lbehind).names.lookup ("_law_found" : Str) = some NameKind.local := by decide +kernel
theorem v_lbehind_4 : (defScope s_lbehind).names.lookup ("_law_cells" : Str) = some NameKind.local := by decide +kernel
theorem v_lbehind_5 : (defScope s_lbehind).names.lookup ("_law_mark" : Str) = some NameKind.local := by decide +kernel
theorem v_lbehind_6 : (defScope s_lbehind).names.lookup ("_law_there" : Str) = some NameKind.local := by decide +kernel
theorem g_lbehind_law_run (L a : Addr) (cd : Value) : (PyProof.Rows.envOfC "_law_behind" (defScope s_lbehind) L a cd).kindOf ("_law_run" : Str) = some NameKind.globalImplicit := rfl
theorem g_lbehind_tuple (L a : Addr) (cd : Value) : (PyProof.Rows.envOfC "_law_behind" (defScope s_lbehind) L a cd).kindOf ("tuple" : Str) = some NameKind.globalImplicit := rfl
theorem ok_lbehind {P : Program} {w : World} {K : PySem.W.Frag} {mg : Str → Option Value} {base : Heap} {f : Addr} {fd : FuncData} (F : Fun K "_law_behind" "_law_behind" s_lbehind f fd) (B : Bn mg) (h_lrun : Fd P w K mg base "_law_run" 2 ["_law_program", "_law_cells", "_law_mark"] [] f_lrun)    :
    FnOk P w K mg base (L2N.CX P w) 4 f fd ["_law_tables", "_law_row", "_law_state"] (spF K mg 3 [] f_lbehind) := by
  refine fn_ok F sc_lbehind (by decide) (by decide) fun cdv A outer s H E hr => ?_
  have nd := sc_lbehind.nd
  have tk : L2N.Takes (cxOf (L2N.CX P w) P w K mg base ["_law_tables", "_law_row", "_law_state", "_law_found", "_law_cells", "_law_mark", "_law_there"] "_law_behind" (defScope s_lbehind) f cdv A outer s H E) (fun cls d _ H => E cls d H) := L2N.takes_of rfl rfl rfl rfl
  have pn : PassesOwn (model P w) (cxOf (L2N.CX P w) P w K mg base ["_law_tables", "_law_row", "_law_state", "_law_found", "_law_cells", "_law_mark", "_law_there"] "_law_behind" (defScope s_lbehind) f cdv A outer s H E).A (cxOf (L2N.CX P w) P w K mg base ["_law_tables", "_law_row", "_law_state", "_law_found", "_law_cells", "_law_mark", "_law_there"] "_law_behind" (defScope s_lbehind) f cdv A outer s H E).env (cxOf (L2N.CX P w) P w K mg base ["_law_tables", "_law_row", "_law_state", "_law_found", "_law_cells", "_law_mark", "_law_there"] "_law_behind" (defScope s_lbehind) f cdv A outer s H E).xe := passes_of rfl
  unfold m_lbehind
  exact mss_cons (ms_setO (i := 3) nd rfl (.inl v_lbehind_3) (mo_lst (ma_nil))) (mss_cons (ms_for pn rfl (mi_val (me_var (i := 2) rfl (.inl v_lbehind_2))) (mg_tup rfl (mgs_cons (mg_name (i := 4) nd rfl (.inl v_lbehind_4)) (mgs_cons (mg_name (i := 5) nd rfl (.inl v_lbehind_5)) (mgs_nil)))) (mss_cons (ms_asg (me_fz (mf_call h_lrun hr (by decide) tk (ma_cons (me_tup (ma_cons (me_var (i := 0) rfl (.inl v_lbehind_0)) (ma_cons (me_tup (ma_cons (me_var (i := 1) rfl (.inl v_lbehind_1)) (ma_nil))) (ma_nil)))) (ma_cons (me_var (i := 4) rfl (.inl v_lbehind_4)) (ma_cons (me_var (i := 5) rfl (.inl v_lbehind_5)) (ma_nil)))) (lng_cons (lng_cons (lng_cons lng_nil))) (hg := (g_lbehind_law_run _ _ _)))) (mg_tup rfl (mgs_cons (mg_name (i := 6) nd rfl (.inl v_lbehind_6)) (mgs_cons (mg_name (i := 5) nd rfl (.inl v_lbehind_5)) (mgs_nil))))) (mss_one (ms_expr (me_lm1 ls_append PySem.F.slot_list_append PySem.F.type_list_append mt_append (i := 3) rfl (.inl v_lbehind_3) (ma_cons (me_tup (ma_cons (mb_tuple B.tuple (ma_cons (me_var (i := 6) rfl (.inl v_lbehind_6)) (ma_nil)) (hg := (g_lbehind_tuple _ _ _))) (ma_cons (me_var (i := 5) rfl (.inl v_lbehind_5)) (ma_nil)))) (ma_nil))))))) (mss_one (ms_ret (mb_tuple B.tuple (ma_cons (me_var (i := 3) rfl (.inl v_lbehind_3)) (ma_nil)) (hg := (g_lbehind_tuple _ _ _))))))

abbrev s_law69 : Stmt := top 45
theorem sc_law69 : FnScope ["_law_script", "_law_cells", "_law_shelves", "_law_menu_here", "_law_starts_here", "_law_pairs", "_law_word", "_law_wanted_here", "_law_cases", "_law_does_it", "_law_stays", "_law_at", "_law_turned_about", "_law_tables", "_law_most", "_law_goal", "_law_byte", "_law_turn", "_law_shorter", "_law_state", "_law_found", "_law_there", "_law_k", "_law_due", "_law_row", "_law_mark", "_law_known"] ["_law_script"] (defScope s_law69) := ⟨rfl, rfl, rfl, by decide +kernel, rfl, by decide +kernel, by decide +kernel⟩
theorem v_law69_0 : (defScope s_law69).names.lookup ("_law_script" : Str) = some NameKind.cell := by decide +kernel
theorem v_law69_1 : (defScope s_law69).names.lookup ("_law_cells" : Str) = some NameKind.local := by decide +kernel
theorem v_law69_2 : (defScope s_law69).names.lookup ("_law_shelves" : Str) = some NameKind.local := by decide +kernel
theorem v_law69_3 : (defScope s_law69).names.lookup ("_law_menu_here" : Str) = some NameKind.local := by decide +kernel
theorem v_law69_4 : (defScope s_law69).names.lookup ("_law_starts_here" : Str) = some NameKind.local := by decide +kernel
theorem v_law69_5 : (defScope s_law69).names.lookup ("_law_pairs" : Str) = some NameKind.local := by decide +kernel
theorem v_law69_6 : (defScope s_law69).names.lookup ("_law_word" : Str) = some NameKind.cell := by decide +kernel
theorem v_law69_7 : (defScope s_law69).names.lookup ("_law_wanted_here" : Str) = some NameKind.cell := by decide +kernel
theorem v_law69_8 : (defScope s_law69).names.lookup ("_law_cases" : Str) = some NameKind.local := by decide +kernel
theorem v_law69_9 : (defScope s_law69).names.lookup ("_law_does_it" : Str) = some NameKind.local := by decide +kernel
theorem v_law69_10 : (defScope s_law69).names.lookup ("_law_stays" : Str) = some NameKind.local := by decide +kernel
theorem v_law69_11 : (defScope s_law69).names.lookup ("_law_at" : Str) = some NameKind.local := by decide +kernel
theorem v_law69_12 : (defScope s_law69).names.lookup ("_law_turned_about" : Str) = some NameKind.local := by decide +kernel
theorem v_law69_13 : (defScope s_law69).names.lookup ("_law_tables" : Str) = some NameKind.local := by decide +kernel
theorem v_law69_14 : (defScope s_law69).names.lookup ("_law_most" : Str) = some NameKind.local := by decide +kernel
theorem v_law69_15 : (defScope s_law69).names.lookup ("_law_goal" : Str) = some NameKind.local := by decide +kernel
theorem v_law69_16 : (defScope s_law69).names.lookup ("_law_byte" : Str) = some NameKind.local := by decide +kernel
theorem v_law69_17 : (defScope s_law69).names.lookup ("_law_turn" : Str) = some NameKind.local := by decide +kernel
theorem v_law69_18 : (defScope s_law69).names.lookup ("_law_shorter" : Str) = some NameKind.local := by decide +kernel
theorem v_law69_19 : (defScope s_law69).names.lookup ("_law_state" : Str) = some NameKind.local := by decide +kernel
theorem v_law69_20 : (defScope s_law69).names.lookup ("_law_found" : Str) = some NameKind.local := by decide +kernel
theorem g_law69_law_cell (L a : Addr) (cd : Value) : (PyProof.Rows.envOfC "law" (defScope s_law69) L a cd).kindOf ("_law_cell" : Str) = some NameKind.globalImplicit := rfl
theorem g_law69_law_draws (L a : Addr) (cd : Value) : (PyProof.Rows.envOfC "law" (defScope s_law69) L a cd).kindOf ("_law_draws" : Str) = some NameKind.globalImplicit := rfl
theorem g_law69_range (L a : Addr) (cd : Value) : (PyProof.Rows.envOfC "law" (defScope s_law69) L a cd).kindOf ("range" : Str) = some NameKind.globalImplicit := rfl
theorem g_law69_tuple (L a : Addr) (cd : Value) : (PyProof.Rows.envOfC "law" (defScope s_law69) L a cd).kindOf ("tuple" : Str) = some NameKind.globalImplicit := rfl
theorem g_law69_law_menu (L a : Addr) (cd : Value) : (PyProof.Rows.envOfC "law" (defScope s_law69) L a cd).kindOf ("_law_menu" : Str) = some NameKind.globalImplicit := rfl
theorem g_law69_law_starts (L a : Addr) (cd : Value) : (PyProof.Rows.envOfC "law" (defScope s_law69) L a cd).kindOf ("_law_starts" : Str) = some NameKind.globalImplicit := rfl
theorem g_law69_len (L a : Addr) (cd : Value) : (PyProof.Rows.envOfC "law" (defScope s_law69) L a cd).kindOf ("len" : Str) = some NameKind.globalImplicit := rfl
theorem g_law69_law_all_words (L a : Addr) (cd : Value) : (PyProof.Rows.envOfC "law" (defScope s_law69) L a cd).kindOf ("_law_all_words" : Str) = some NameKind.globalImplicit := rfl
theorem g_law69_law_behind (L a : Addr) (cd : Value) : (PyProof.Rows.envOfC "law" (defScope s_law69) L a cd).kindOf ("_law_behind" : Str) = some NameKind.globalImplicit := rfl
theorem g_law69_zip (L a : Addr) (cd : Value) : (PyProof.Rows.envOfC "law" (defScope s_law69) L a cd).kindOf ("zip" : Str) = some NameKind.globalImplicit := rfl
theorem g_law69_law_one_each (L a : Addr) (cd : Value) : (PyProof.Rows.envOfC "law" (defScope s_law69) L a cd).kindOf ("_law_one_each" : Str) = some NameKind.globalImplicit := rfl
theorem g_law69_least_holds (L a : Addr) (cd : Value) : (PyProof.Rows.envOfC "law" (defScope s_law69) L a cd).kindOf ("least_holds" : Str) = some NameKind.globalImplicit := rfl
theorem g_law69_bool (L a : Addr) (cd : Value) : (PyProof.Rows.envOfC "law" (defScope s_law69) L a cd).kindOf ("bool" : Str) = some NameKind.globalImplicit := rfl
theorem g_law69_isinstance (L a : Addr) (cd : Value) : (PyProof.Rows.envOfC "law" (defScope s_law69) L a cd).kindOf ("isinstance" : Str) = some NameKind.globalImplicit := rfl
theorem ok_law69 {P : Program} {w : World} {K : PySem.W.Frag} {mg : Str → Option Value} {base : Heap} {f : Addr} {fd : FuncData} (F : Fun K "law" "law" s_law69 f fd) (B : Bn mg) (h_ldraws : Fd P w K mg base "_law_draws" 4 ["_law_cell_here", "_law_salt", "_law_widths"] [] f_ldraws) (h_lcell : Fd P w K mg base "_law_cell" 2 ["_law_script", "_law_k"] [] f_lcell) (h_lsome_table : Fd P w K mg base "_law_some_table" 6 ["_law_cell_here", "_law_salt"] [] f_lsome_table) (h_lmenu : Fd P w K mg base "_law_menu" 8 ["_law_script", "_law_at", "_law_cells", "_law_tables"] [] f_lmenu) (h_lstarts : Fd P w K mg base "_law_starts" 6 ["_law_script", "_law_at", "_law_cells"] [] f_lstarts) (h_lall_words : Fd P w K mg base "_law_all_words" 2 ["_law_many", "_law_most"] [] f_lall_words) (h_lbehind : Fd P w K mg base "_law_behind" 4 ["_law_tables", "_law_row", "_law_state"] [] f_lbehind) (h_lwanted : Fd P w K mg base "_law_wanted" 2 ["_law_state", "_law_bytes_due"] [] f_lwanted) (h_lone_each : Fd P w K mg base "_law_one_each" 2 ["_law_pairs", "_law_turn"] [] f_lone_each) (h_pleast_holds : Fd P w K mg base "least_holds" 14 ["tables", "menu", "cases", "most", "thing"] [] f_pleast_holds)    :
    FnOk P w K mg base (L2N.CX P w) 16 f fd ["_law_script"] (spF K mg 1 [] f_law69) := by
  refine fn_ok F sc_law69 (by decide) (by decide) fun cdv A outer s H E hr => ?_
  have nd := sc_law69.nd
  have tk : L2N.Takes (cxOf (L2N.CX P w) P w K mg base ["_law_script", "_law_cells", "_law_shelves", "_law_menu_here", "_law_starts_here", "_law_pairs", "_law_word", "_law_wanted_here", "_law_cases", "_law_does_it", "_law_stays", "_law_at", "_law_turned_about", "_law_tables", "_law_most", "_law_goal", "_law_byte", "_law_turn", "_law_shorter", "_law_state", "_law_found", "_law_there", "_law_k", "_law_due", "_law_row", "_law_mark", "_law_known"] "law" (defScope s_law69) f cdv A outer s H E) (fun cls d _ H => E cls d H) := L2N.takes_of rfl rfl rfl rfl
  have pn : PassesOwn (model P w) (cxOf (L2N.CX P w) P w K mg base ["_law_script", "_law_cells", "_law_shelves", "_law_menu_here", "_law_starts_here", "_law_pairs", "_law_word", "_law_wanted_here", "_law_cases", "_law_does_it", "_law_stays", "_law_at", "_law_turned_about", "_law_tables", "_law_most", "_law_goal", "_law_byte", "_law_turn", "_law_shorter", "_law_state", "_law_found", "_law_there", "_law_k", "_law_due", "_law_row", "_law_mark", "_law_known"] "law" (defScope s_law69) f cdv A outer s H E).A (cxOf (L2N.CX P w) P w K mg base ["_law_script", "_law_cells", "_law_shelves", "_law_menu_here", "_law_starts_here", "_law_pairs", "_law_word", "_law_wanted_here", "_law_cases", "_law_does_it", "_law_stays", "_law_at", "_law_turned_about", "_law_tables", "_law_most", "_law_goal", "_law_byte", "_law_turn", "_law_shorter", "_law_state", "_law_found", "_law_there", "_law_k", "_law_due", "_law_row", "_law_mark", "_law_known"] "law" (defScope s_law69) f cdv A outer s H E).env (cxOf (L2N.CX P w) P w K mg base ["_law_script", "_law_cells", "_law_shelves", "_law_menu_here", "_law_starts_here", "_law_pairs", "_law_word", "_law_wanted_here", "_law_cases", "_law_does_it", "_law_stays", "_law_at", "_law_turned_about", "_law_tables", "_law_most", "_law_goal", "_law_byte", "_law_turn", "_law_shorter", "_law_state", "_law_found", "_law_there", "_law_k", "_law_due", "_law_row", "_law_mark", "_law_known"] "law" (defScope s_law69) f cdv A outer s H E).xe := passes_of rfl
  unfold m_law69
  exact mss_cons (ms_asg (me_fz (mf_call h_ldraws hr (by decide) tk (ma_cons (me_fz (mf_call h_lcell hr (by decide) tk (ma_cons (me_var (i := 0) rfl (.inr (.inl v_law69_0))) (ma_cons (me_int) (ma_nil))) (lng_cons (lng_cons lng_nil)) (hg := (g_law69_law_cell _ _ _)))) (ma_cons (me_int) (ma_cons (me_lst (ma_cons (me_int) (ma_cons (me_int) (ma_cons (me_int) (ma_cons (me_int) (ma_cons (me_int) (ma_cons (me_int) (ma_cons (me_int) (ma_nil))))))))) (ma_nil)))) (lng_cons (lng_cons (lng_cons lng_nil))) (hg := (g_law69_law_draws _ _ _)))) (mg_tup rfl (mgs_cons (mg_name (i := 1) nd rfl (.inl v_law69_1)) (mgs_cons (mg_name (i := 13) nd rfl (.inl v_law69_13)) (mgs_cons (mg_name (i := 14) nd rfl (.inl v_law69_14)) (mgs_cons (mg_name (i := 15) nd rfl (.inl v_law69_15)) (mgs_cons (mg_name (i := 11) nd rfl (.inl v_law69_11)) (mgs_cons (mg_name (i := 16) nd rfl (.inl v_law69_16)) (mgs_cons (mg_name (i := 17) nd rfl (.inl v_law69_17)) (mgs_nil)))))))))) (mss_cons (ms_set (i := 1) nd rfl (.inl v_law69_1) (me_add (me_int) (me_var (i := 1) rfl (.inl v_law69_1)))) (mss_cons (ms_set (i := 2) nd rfl (.inl v_law69_2) (mb_tuple B.tuple (ma_cons (me_fz (mo_lc (own := [("_law_k", 22)]) (g := .nm 22) rfl nd (mi_r1 B.range (ma_cons (me_var (i := 13) rfl (.inl v_law69_13)) (ma_nil)) (hg := (g_law69_range _ _ _))) (blkOk_at (N' := ["_law_script", "_law_cells", "_law_shelves", "_law_menu_here", "_law_starts_here", "_law_pairs", "_law_word", "_law_wanted_here", "_law_cases", "_law_does_it", "_law_stays", "_law_at", "_law_turned_about", "_law_tables", "_law_most", "_law_goal", "_law_byte", "_law_turn", "_law_shorter", "_law_state", "_law_found", "_law_there", "_law_k", "_law_due", "_law_row", "_law_mark", "_law_known"]) (sc' := defScope s_law69) rfl rfl (by decide +kernel)) (fun _ _ _ _ _ => pg_name (i := 22) nd rfl (Or.inl rfl)) (fun _ _ _ _ _ => mts_nil) (fun _ _ _ _ _ => me_fz (mf_call0 h_lsome_table hr (by decide) (ma_cons (me_fz (mf_call0 h_lcell hr (by decide) (ma_cons (me_var (i := 0) rfl (by first | exact .inr (.inr rfl) | exact .inl rfl | exact .inr (.inl rfl))) (ma_cons (me_add (me_int) (me_var (i := 22) rfl (.inl rfl))) (ma_nil))) (lng_cons (lng_cons lng_nil)) (hg := rfl))) (ma_cons (me_add (me_int) (me_var (i := 22) rfl (.inl rfl))) (ma_nil))) (lng_cons (lng_cons lng_nil)) (hg := rfl))) (hbs := hbs_of rfl))) (ma_nil)) (hg := (g_law69_tuple _ _ _)))) (mss_cons (ms_set (i := 3) nd rfl (.inl v_law69_3) (me_sl (me_fz (mf_call h_lmenu hr (by decide) tk (ma_cons (me_var (i := 0) rfl (.inr (.inl v_law69_0))) (ma_cons (me_int) (ma_cons (me_var (i := 1) rfl (.inl v_law69_1)) (ma_cons (me_var (i := 13) rfl (.inl v_law69_13)) (ma_nil))))) (lng_cons (lng_cons (lng_cons (lng_cons lng_nil)))) (hg := (g_law69_law_menu _ _ _)))) (mp_none) (mp_some (me_int)))) (mss_cons (ms_set (i := 4) nd rfl (.inl v_law69_4) (me_sl (me_fz (mf_call h_lstarts hr (by decide) tk (ma_cons (me_var (i := 0) rfl (.inr (.inl v_law69_0))) (ma_cons (me_int) (ma_cons (me_var (i := 1) rfl (.inl v_law69_1)) (ma_nil)))) (lng_cons (lng_cons (lng_cons lng_nil))) (hg := (g_law69_law_starts _ _ _)))) (mp_none) (mp_some (me_int)))) (mss_cons (ms_setO (i := 5) nd rfl (.inl v_law69_5) (mo_lst (ma_cons (me_tup (ma_cons (me_tup (ma_nil)) (ma_cons (me_var (i := 4) rfl (.inl v_law69_4)) (ma_nil)))) (ma_nil)))) (mss_cons (ms_for pn rfl (mi_val (me_sl (me_fz (mf_call h_lall_words hr (by decide) tk (ma_cons (mb_len B.len (ma_cons (me_var (i := 3) rfl (.inl v_law69_3)) (ma_nil)) (hg := (g_law69_len _ _ _))) (ma_cons (me_var (i := 14) rfl (.inl v_law69_14)) (ma_nil))) (lng_cons (lng_cons lng_nil)) (hg := (g_law69_law_all_words _ _ _)))) (mp_some (me_int)) (mp_none))) (mg_name (i := 6) nd rfl (.inr v_law69_6)) (mss_cons (ms_set (i := 18) nd rfl (.inl v_law69_18) (me_ix (me_fz (mo_lcW (own := [("_law_known", 26), ("_law_state", 19)]) (g := .tp [26, 19]) rfl nd (j := 5) rfl (.inl v_law69_5) (blkOk_at (N' := ["_law_script", "_law_cells", "_law_shelves", "_law_menu_here", "_law_starts_here", "_law_pairs", "_law_word", "_law_wanted_here", "_law_cases", "_law_does_it", "_law_stays", "_law_at", "_law_turned_about", "_law_tables", "_law_most", "_law_goal", "_law_byte", "_law_turn", "_law_shorter", "_law_state", "_law_found", "_law_there", "_law_k", "_law_due", "_law_row", "_law_mark", "_law_known"]) (sc' := defScope s_law69) rfl rfl (by decide +kernel)) (fun _ _ _ _ _ => pg_tup rfl (pgs_cons (pg_name (i := 26) nd rfl (Or.inl rfl)) (pgs_cons (pg_name (i := 19) nd rfl (Or.inl rfl)) (pgs_nil)))) (fun _ _ _ _ _ => mts_one (mt_cmp (op_eqM hr.units) os_eq (me_var (i := 26) rfl (.inl rfl)) (me_sl (me_var (i := 6) rfl (by first | exact .inr (.inr rfl) | exact .inl rfl | exact .inr (.inl rfl))) (mp_none) (mp_some (me_neg (me_int)))) (nomark _))) (fun _ _ _ _ _ => me_var (i := 19) rfl (.inl rfl)) (hbs := hbs_of rfl))) (me_int))) (mss_one (ms_expr (me_lm1 ls_append PySem.F.slot_list_append PySem.F.type_list_append mt_append (i := 5) rfl (.inl v_law69_5) (ma_cons (me_tup (ma_cons (me_var (i := 6) rfl (.inr (.inl v_law69_6))) (ma_cons (me_fz (mf_call h_lbehind hr (by decide) tk (ma_cons (me_var (i := 2) rfl (.inl v_law69_2)) (ma_cons (me_ix (me_var (i := 3) rfl (.inl v_law69_3)) (me_ix (me_var (i := 6) rfl (.inr (.inl v_law69_6))) (me_neg (me_int)))) (ma_cons (me_var (i := 18) rfl (.inl v_law69_18)) (ma_nil)))) (lng_cons (lng_cons (lng_cons lng_nil))) (hg := (g_law69_law_behind _ _ _)))) (ma_nil)))) (ma_nil))))))) (mss_cons (ms_setO (i := 7) nd rfl (.inr v_law69_7) (mo_lc (own := [("_law_there", 21)]) (g := .nm 21) rfl nd (mi_val (me_ix (me_ixV (i := 5) rfl (.inl v_law69_5) (me_mod (me_var (i := 17) rfl (.inl v_law69_17)) (me_lenV B.len (i := 5) rfl (.inl v_law69_5) (hg := (g_law69_len _ _ _))))) (me_int))) (blkOk_at (N' := ["_law_script", "_law_cells", "_law_shelves", "_law_menu_here", "_law_starts_here", "_law_pairs", "_law_word", "_law_wanted_here", "_law_cases", "_law_does_it", "_law_stays", "_law_at", "_law_turned_about", "_law_tables", "_law_most", "_law_goal", "_law_byte", "_law_turn", "_law_shorter", "_law_state", "_law_found", "_law_there", "_law_k", "_law_due", "_law_row", "_law_mark", "_law_known"]) (sc' := defScope s_law69) rfl rfl (by decide +kernel)) (fun _ _ _ _ _ => pg_name (i := 21) nd rfl (Or.inl rfl)) (fun _ _ _ _ _ => mts_nil) (fun _ _ _ _ _ => me_ix (me_ix (me_var (i := 21) rfl (.inl rfl)) (me_int)) (me_int)) (hbs := hbs_of rfl))) (mss_cons (ms_if (mt_cmp op_gt os_gt (me_var (i := 15) rfl (.inl v_law69_15)) (me_int) (nomark _)) (mss_cons (ms_set (i := 11) nd rfl (.inl v_law69_11) (me_mod (me_var (i := 11) rfl (.inl v_law69_11)) (me_lenV B.len (i := 7) rfl (.inr (.inl v_law69_7)) (hg := (g_law69_len _ _ _))))) (mss_one (ms_setIx (i := 7) rfl (.inr (.inl v_law69_7)) (me_mod (me_add (me_add (me_ixV (i := 7) rfl (.inr (.inl v_law69_7)) (me_var (i := 11) rfl (.inl v_law69_11))) (me_int)) (me_var (i := 16) rfl (.inl v_law69_16))) (me_int)) (me_var (i := 11) rfl (.inl v_law69_11))))) (mss_nil)) (mss_cons (ms_set (i := 8) nd rfl (.inl v_law69_8) (mb_tuple B.tuple (ma_cons (me_fz (mo_lc (own := [("_law_row", 24), ("_law_mark", 25), ("_law_due", 23)]) (g := .tn [24, 25] 23) rfl nd (mi_zip B.zip (ma_cons (me_var (i := 4) rfl (.inl v_law69_4)) (ma_cons (me_var (i := 7) rfl (.inr (.inl v_law69_7))) (ma_nil))) (hg := (g_law69_zip _ _ _))) (blkOk_at (N' := ["_law_script", "_law_cells", "_law_shelves", "_law_menu_here", "_law_starts_here", "_law_pairs", "_law_word", "_law_wanted_here", "_law_cases", "_law_does_it", "_law_stays", "_law_at", "_law_turned_about", "_law_tables", "_law_most", "_law_goal", "_law_byte", "_law_turn", "_law_shorter", "_law_state", "_law_found", "_law_there", "_law_k", "_law_due", "_law_row", "_law_mark", "_law_known"]) (sc' := defScope s_law69) rfl rfl (by decide +kernel)) (fun _ _ _ _ _ => pg_tup rfl (pgs_cons (pg_tup rfl (pgs_cons (pg_name (i := 24) nd rfl (Or.inl rfl)) (pgs_cons (pg_name (i := 25) nd rfl (Or.inl rfl)) (pgs_nil)))) (pgs_cons (pg_name (i := 23) nd rfl (Or.inl rfl)) pgs_nil))) (fun _ _ _ _ _ => mts_nil) (fun _ _ _ _ _ => me_tup (ma_cons (me_var (i := 24) rfl (.inl rfl)) (ma_cons (me_var (i := 25) rfl (.inl rfl)) (ma_cons (me_var (i := 23) rfl (.inl rfl)) (ma_nil))))) (hbs := hbs_of rfl))) (ma_nil)) (hg := (g_law69_tuple _ _ _)))) (mss_cons (ms_setLc (own := [("_law_word", 6), ("_law_state", 19)]) (g := .tp [6, 19]) (i := 9) rfl nd rfl v_law69_9 (sw_true rfl v_law69_9 rfl (by decide +kernel)) (mi_val (me_var (i := 5) rfl (.inl v_law69_5))) (blkOk_at (N' := ["_law_script", "_law_cells", "_law_shelves", "_law_menu_here", "_law_starts_here", "_law_pairs", "_law_word", "_law_wanted_here", "_law_cases", "_law_does_it", "_law_stays", "_law_at", "_law_turned_about", "_law_tables", "_law_most", "_law_goal", "_law_byte", "_law_turn", "_law_shorter", "_law_state", "_law_found", "_law_there", "_law_k", "_law_due", "_law_row", "_law_mark", "_law_known"]) (sc' := defScope s_law69) rfl rfl (by decide +kernel)) (fun _ _ _ _ _ => pg_tup rfl (pgs_cons (pg_name (i := 6) nd rfl (Or.inl rfl)) (pgs_cons (pg_name (i := 19) nd rfl (Or.inl rfl)) (pgs_nil)))) (fun _ _ _ _ _ => mts_one (mt_val (me_fz (mf_call0 h_lwanted hr (by decide) (ma_cons (me_var (i := 19) rfl (.inl rfl)) (ma_cons (me_var (i := 7) rfl (by first | exact .inr (.inr rfl) | exact .inl rfl | exact .inr (.inl rfl))) (ma_nil))) (lng_cons (lng_cons lng_nil)) (hg := rfl))))) (fun _ _ _ _ _ => me_var (i := 6) rfl (.inl rfl)) (hbs := hbs_of rfl)) (mss_cons (ms_set (i := 10) nd rfl (.inl v_law69_10) (me_var (i := 5) rfl (.inl v_law69_5))) (mss_cons (ms_if (mt_cmp (op_eqM hr.units) os_eq (me_mod (me_var (i := 17) rfl (.inl v_law69_17)) (me_int)) (me_int) (nomark _)) (mss_one (ms_set (i := 10) nd rfl (.inl v_law69_10) (me_fz (mf_call h_lone_each hr (by decide) tk (ma_cons (me_var (i := 5) rfl (.inl v_law69_5)) (ma_cons (me_div (me_var (i := 17) rfl (.inl v_law69_17)) (me_int)) (ma_nil))) (lng_cons (lng_cons lng_nil)) (hg := (g_law69_law_one_each _ _ _)))))) (mss_nil)) (mss_cons (ms_set (i := 11) nd rfl (.inl v_law69_11) (me_add (me_int) (me_mod (me_var (i := 17) rfl (.inl v_law69_17)) (mb_len B.len (ma_cons (me_var (i := 10) rfl (.inl v_law69_10)) (ma_nil)) (hg := (g_law69_len _ _ _)))))) (mss_cons (ms_set (i := 12) nd rfl (.inl v_law69_12) (me_add (me_add (me_sl (me_var (i := 10) rfl (.inl v_law69_10)) (mp_none) (mp_some (me_int))) (me_revA (me_sl (me_var (i := 10) rfl (.inl v_law69_10)) (mp_some (me_var (i := 11) rfl (.inl v_law69_11))) (mp_none)))) (me_sl (me_var (i := 10) rfl (.inl v_law69_10)) (mp_some (me_int)) (mp_some (me_var (i := 11) rfl (.inl v_law69_11)))))) (mss_cons (ms_if (mt_cmp (op_neM hr.units) os_ne (me_fz (mf_call h_pleast_holds hr (by decide) tk (ma_cons (me_var (i := 2) rfl (.inl v_law69_2)) (ma_cons (me_var (i := 3) rfl (.inl v_law69_3)) (ma_cons (me_var (i := 8) rfl (.inl v_law69_8)) (ma_cons (me_var (i := 14) rfl (.inl v_law69_14)) (ma_cons (me_tup (ma_cons (me_str) (ma_cons (mb_tuple B.tuple (ma_cons (me_var (i := 12) rfl (.inl v_law69_12)) (ma_nil)) (hg := (g_law69_tuple _ _ _))) (ma_nil)))) (ma_nil)))))) (lng_cons (lng_cons (lng_cons (lng_cons (lng_cons lng_nil))))) (hg := (g_law69_least_holds _ _ _)))) (me_cmp (op_eqM hr.units) os_eq (mb_len B.len (ma_cons (me_var (i := 9) rfl (.inl v_law69_9)) (ma_nil)) (hg := (g_law69_len _ _ _))) (me_int) (nomark _)) (nomark _)) (mss_one (ms_ret (me_bl))) (mss_nil)) (mss_cons (ms_for pn rfl (mi_val (me_slV (i := 5) rfl (.inl v_law69_5) (mp_none) (mp_some (me_int)))) (mg_tup rfl (mgs_cons (mg_name (i := 6) nd rfl (.inr v_law69_6)) (mgs_cons (mg_name (i := 19) nd rfl (.inl v_law69_19)) (mgs_nil)))) (mss_cons (ms_set (i := 20) nd rfl (.inl v_law69_20) (me_fz (mf_call h_pleast_holds hr (by decide) tk (ma_cons (me_var (i := 2) rfl (.inl v_law69_2)) (ma_cons (me_var (i := 3) rfl (.inl v_law69_3)) (ma_cons (me_var (i := 8) rfl (.inl v_law69_8)) (ma_cons (me_var (i := 14) rfl (.inl v_law69_14)) (ma_cons (me_tup (ma_cons (me_str) (ma_cons (me_var (i := 6) rfl (.inr (.inl v_law69_6))) (ma_nil)))) (ma_nil)))))) (lng_cons (lng_cons (lng_cons (lng_cons (lng_cons lng_nil))))) (hg := (g_law69_least_holds _ _ _))))) (mss_one (ms_if (PW.pt (mw_or (mt_not (mt_val (mb_isi B.isinstance (ma_cons (me_var (i := 20) rfl (.inl v_law69_20)) (ma_cons (me_bltn B.bool (by decide +kernel) (w := .ty "bool") rfl (hg := (g_law69_bool _ _ _))) ma_nil)) (hg := (g_law69_isinstance _ _ _))))) (mw_one_or (mt_cmp (op_neM hr.units) os_ne (me_var (i := 20) rfl (.inl v_law69_20)) (me_cmp (op_eqM hr.units) os_eq (me_sl (me_var (i := 9) rfl (.inl v_law69_9)) (mp_none) (mp_some (me_int))) (me_lst (ma_cons (me_var (i := 6) rfl (.inr (.inl v_law69_6))) (ma_nil))) (nomark _)) (nomark _))))) (mss_one (ms_ret (me_bl))) (mss_nil))))) (mss_one (ms_ret (me_bl)))))))))))))))))))

theorem all_mk {l : PySem.W.OpenLaw} {w : World} {K : PySem.W.Frag} {h : Heap} {mg : Str → Option Value} {fa f0 f1 f2 f3 f4 f5 f6 f7 f8 f9 f10 f11 f12 f13 f14 f15 f16 f17 f18 f19 f20 f21 f22 f23 f24 f25 f26 f27 f28 f29 f30 f31 f32 : Addr} (X : K.In h) (G : h.Ns mainGlobals mg) (hfa : mg "law" = some (.ref fa))
    {od0 an0 od1 an1 od2 an2 od3 an3 od4 an4 od5 an5 od6 an6 od7 an7 od8 an8 od9 an9 od10 an10 od11 an11 od12 an12 od13 an13 od14 an14 od15 an15 od16 an16 od17 an17 od18 an18 od19 an19 od20 an20 od21 an21 od22 an22 od23 an23 od24 an24 od25 an25 od26 an26 od27 an27 od28 an28 od29 an29 od30 an30 od31 an31 od32 an32 : Option Addr} {sl0 sl1 sl2 sl3 sl4 sl5 sl6 sl7 sl8 sl9 sl10 sl11 sl12 sl13 sl14 sl15 sl16 sl17 sl18 sl19 sl20 sl21 sl22 sl23 sl24 sl25 sl26 sl27 sl28 sl29 sl30 sl31 sl32 : Array (Option Value)} {oc0 kV0 dc0 pm0 cd0 ct0 oc1 kV1 dc1 pm1 cd1 ct1 oc2 kV2 dc2 pm2 cd2 ct2 oc3 kV3 dc3 pm3 cd3 ct3 oc4 kV4 dc4 pm4 cd4 ct4 oc5 kV5 dc5 pm5 cd5 ct5 oc6 kV6 dc6 pm6 cd6 ct6 oc7 kV7 dc7 pm7 cd7 ct7 oc8 kV8 dc8 pm8 cd8 ct8 oc9 kV9 dc9 pm9 cd9 ct9 oc10 kV10 dc10 pm10 cd10 ct10 oc11 kV11 dc11 pm11 cd11 ct11 oc12 kV12 dc12 pm12 cd12 ct12 oc13 kV13 dc13 pm13 cd13 ct13 oc14 kV14 dc14 pm14 cd14 ct14 oc15 kV15 dc15 pm15 cd15 ct15 oc16 kV16 dc16 pm16 cd16 ct16 oc17 kV17 dc17 pm17 cd17 ct17 oc18 kV18 dc18 pm18 cd18 ct18 oc19 kV19 dc19 pm19 cd19 ct19 oc20 kV20 dc20 pm20 cd20 ct20 oc21 kV21 dc21 pm21 cd21 ct21 oc22 kV22 dc22 pm22 cd22 ct22 oc23 kV23 dc23 pm23 cd23 ct23 oc24 kV24 dc24 pm24 cd24 ct24 oc25 kV25 dc25 pm25 cd25 ct25 oc26 kV26 dc26 pm26 cd26 ct26 oc27 kV27 dc27 pm27 cd27 ct27 oc28 kV28 dc28 pm28 cd28 ct28 oc29 kV29 dc29 pm29 cd29 ct29 oc30 kV30 dc30 pm30 cd30 ct30 oc31 kV31 dc31 pm31 cd31 ct31 oc32 kV32 dc32 pm32 cd32 ct32 : Value}
    (a0 : PySem.W.nsIn K mainGlobals "_law_mixed" = some (some (.ref f0))) (l0 : K.lookup f0 = some ⟨oc0, od0, .func (PySem.W.fnOf "_law_mixed" "_law_mixed" (defArgs s_lmixed) (defBody s_lmixed) (defScope s_lmixed) .none kV0 dc0 pm0 an0 cd0 ct0), sl0⟩) (c0 : PySem.W.codeIn K cd0 "_law_mixed" = true) (k0 : PySem.W.keepIn K (.ref f0) = true)
    (a1 : PySem.W.nsIn K mainGlobals "_law_draws" = some (some (.ref f1))) (l1 : K.lookup f1 = some ⟨oc1, od1, .func (PySem.W.fnOf "_law_draws" "_law_draws" (defArgs s_ldraws) (defBody s_ldraws) (defScope s_ldraws) .none kV1 dc1 pm1 an1 cd1 ct1), sl1⟩) (c1 : PySem.W.codeIn K cd1 "_law_draws" = true) (k1 : PySem.W.keepIn K (.ref f1) = true)
    (a2 : PySem.W.nsIn K mainGlobals "_law_cell" = some (some (.ref f2))) (l2 : K.lookup f2 = some ⟨oc2, od2, .func (PySem.W.fnOf "_law_cell" "_law_cell" (defArgs s_lcell) (defBody s_lcell) (defScope s_lcell) .none kV2 dc2 pm2 an2 cd2 ct2), sl2⟩) (c2 : PySem.W.codeIn K cd2 "_law_cell" = true) (k2 : PySem.W.keepIn K (.ref f2) = true)
    (a3 : PySem.W.nsIn K mainGlobals "_law_some_row" = some (some (.ref f3))) (l3 : K.lookup f3 = some ⟨oc3, od3, .func (PySem.W.fnOf "_law_some_row" "_law_some_row" (defArgs s_lsome_row) (defBody s_lsome_row) (defScope s_lsome_row) .none kV3 dc3 pm3 an3 cd3 ct3), sl3⟩) (c3 : PySem.W.codeIn K cd3 "_law_some_row" = true) (k3 : PySem.W.keepIn K (.ref f3) = true)
    (a4 : PySem.W.nsIn K mainGlobals "_law_menu" = some (some (.ref f4))) (l4 : K.lookup f4 = some ⟨oc4, od4, .func (PySem.W.fnOf "_law_menu" "_law_menu" (defArgs s_lmenu) (defBody s_lmenu) (defScope s_lmenu) .none kV4 dc4 pm4 an4 cd4 ct4), sl4⟩) (c4 : PySem.W.codeIn K cd4 "_law_menu" = true) (k4 : PySem.W.keepIn K (.ref f4) = true)
    (a5 : PySem.W.nsIn K mainGlobals "_law_starts" = some (some (.ref f5))) (l5 : K.lookup f5 = some ⟨oc5, od5, .func (PySem.W.fnOf "_law_starts" "_law_starts" (defArgs s_lstarts) (defBody s_lstarts) (defScope s_lstarts) .none kV5 dc5 pm5 an5 cd5 ct5), sl5⟩) (c5 : PySem.W.codeIn K cd5 "_law_starts" = true) (k5 : PySem.W.keepIn K (.ref f5) = true)
    (a6 : PySem.W.nsIn K mainGlobals "_law_all_words" = some (some (.ref f6))) (l6 : K.lookup f6 = some ⟨oc6, od6, .func (PySem.W.fnOf "_law_all_words" "_law_all_words" (defArgs s_lall_words) (defBody s_lall_words) (defScope s_lall_words) .none kV6 dc6 pm6 an6 cd6 ct6), sl6⟩) (c6 : PySem.W.codeIn K cd6 "_law_all_words" = true) (k6 : PySem.W.keepIn K (.ref f6) = true)
    (a7 : PySem.W.nsIn K mainGlobals "_law_one_each" = some (some (.ref f7))) (l7 : K.lookup f7 = some ⟨oc7, od7, .func (PySem.W.fnOf "_law_one_each" "_law_one_each" (defArgs s_lone_each) (defBody s_lone_each) (defScope s_lone_each) .none kV7 dc7 pm7 an7 cd7 ct7), sl7⟩) (c7 : PySem.W.codeIn K cd7 "_law_one_each" = true) (k7 : PySem.W.keepIn K (.ref f7) = true)
    (a8 : PySem.W.nsIn K mainGlobals "starts_of" = some (some (.ref f8))) (l8 : K.lookup f8 = some ⟨oc8, od8, .func (PySem.W.fnOf "starts_of" "starts_of" (defArgs s_pstarts_of) (defBody s_pstarts_of) (defScope s_pstarts_of) .none kV8 dc8 pm8 an8 cd8 ct8), sl8⟩) (c8 : PySem.W.codeIn K cd8 "starts_of" = true) (k8 : PySem.W.keepIn K (.ref f8) = true)
    (a9 : PySem.W.nsIn K mainGlobals "is_table" = some (some (.ref f9))) (l9 : K.lookup f9 = some ⟨oc9, od9, .func (PySem.W.fnOf "is_table" "is_table" (defArgs s_pis_table) (defBody s_pis_table) (defScope s_pis_table) .none kV9 dc9 pm9 an9 cd9 ct9), sl9⟩) (c9 : PySem.W.codeIn K cd9 "is_table" = true) (k9 : PySem.W.keepIn K (.ref f9) = true)
    (a10 : PySem.W.nsIn K mainGlobals "parts_due" = some (some (.ref f10))) (l10 : K.lookup f10 = some ⟨oc10, od10, .func (PySem.W.fnOf "parts_due" "parts_due" (defArgs s_pparts_due) (defBody s_pparts_due) (defScope s_pparts_due) .none kV10 dc10 pm10 an10 cd10 ct10), sl10⟩) (c10 : PySem.W.codeIn K cd10 "parts_due" = true) (k10 : PySem.W.keepIn K (.ref f10) = true)
    (a11 : PySem.W.nsIn K mainGlobals "is_row" = some (some (.ref f11))) (l11 : K.lookup f11 = some ⟨oc11, od11, .func (PySem.W.fnOf "is_row" "is_row" (defArgs s_pis_row) (defBody s_pis_row) (defScope s_pis_row) .none kV11 dc11 pm11 an11 cd11 ct11), sl11⟩) (c11 : PySem.W.codeIn K cd11 "is_row" = true) (k11 : PySem.W.keepIn K (.ref f11) = true)
    (a12 : PySem.W.nsIn K mainGlobals "hold_program" = some (some (.ref f12))) (l12 : K.lookup f12 = some ⟨oc12, od12, .func (PySem.W.fnOf "hold_program" "hold_program" (defArgs s_phold_program) (defBody s_phold_program) (defScope s_phold_program) .none kV12 dc12 pm12 an12 cd12 ct12), sl12⟩) (c12 : PySem.W.codeIn K cd12 "hold_program" = true) (k12 : PySem.W.keepIn K (.ref f12) = true)
    (a13 : PySem.W.nsIn K mainGlobals "held_menu" = some (some (.ref f13))) (l13 : K.lookup f13 = some ⟨oc13, od13, .func (PySem.W.fnOf "held_menu" "held_menu" (defArgs s_pheld_menu) (defBody s_pheld_menu) (defScope s_pheld_menu) .none kV13 dc13 pm13 an13 cd13 ct13), sl13⟩) (c13 : PySem.W.codeIn K cd13 "held_menu" = true) (k13 : PySem.W.keepIn K (.ref f13) = true)
    (a14 : PySem.W.nsIn K mainGlobals "shift_step" = some (some (.ref f14))) (l14 : K.lookup f14 = some ⟨oc14, od14, .func (PySem.W.fnOf "shift_step" "shift_step" (defArgs s_pshift_step) (defBody s_pshift_step) (defScope s_pshift_step) .none kV14 dc14 pm14 an14 cd14 ct14), sl14⟩) (c14 : PySem.W.codeIn K cd14 "shift_step" = true) (k14 : PySem.W.keepIn K (.ref f14) = true)
    (a15 : PySem.W.nsIn K mainGlobals "sum_step" = some (some (.ref f15))) (l15 : K.lookup f15 = some ⟨oc15, od15, .func (PySem.W.fnOf "sum_step" "sum_step" (defArgs s_psum_step) (defBody s_psum_step) (defScope s_psum_step) .none kV15 dc15 pm15 an15 cd15 ct15), sl15⟩) (c15 : PySem.W.codeIn K cd15 "sum_step" = true) (k15 : PySem.W.keepIn K (.ref f15) = true)
    (a16 : PySem.W.nsIn K mainGlobals "step" = some (some (.ref f16))) (l16 : K.lookup f16 = some ⟨oc16, od16, .func (PySem.W.fnOf "step" "step" (defArgs s_pstep) (defBody s_pstep) (defScope s_pstep) .none kV16 dc16 pm16 an16 cd16 ct16), sl16⟩) (c16 : PySem.W.codeIn K cd16 "step" = true) (k16 : PySem.W.keepIn K (.ref f16) = true)
    (a17 : PySem.W.nsIn K mainGlobals "behind_row" = some (some (.ref f17))) (l17 : K.lookup f17 = some ⟨oc17, od17, .func (PySem.W.fnOf "behind_row" "behind_row" (defArgs s_pbehind_row) (defBody s_pbehind_row) (defScope s_pbehind_row) .none kV17 dc17 pm17 an17 cd17 ct17), sl17⟩) (c17 : PySem.W.codeIn K cd17 "behind_row" = true) (k17 : PySem.W.keepIn K (.ref f17) = true)
    (a18 : PySem.W.nsIn K mainGlobals "pairs_shut" = some (some (.ref f18))) (l18 : K.lookup f18 = some ⟨oc18, od18, .func (PySem.W.fnOf "pairs_shut" "pairs_shut" (defArgs s_ppairs_shut) (defBody s_ppairs_shut) (defScope s_ppairs_shut) .none kV18 dc18 pm18 an18 cd18 ct18), sl18⟩) (c18 : PySem.W.codeIn K cd18 "pairs_shut" = true) (k18 : PySem.W.keepIn K (.ref f18) = true)
    (a19 : PySem.W.nsIn K mainGlobals "is_word" = some (some (.ref f19))) (l19 : K.lookup f19 = some ⟨oc19, od19, .func (PySem.W.fnOf "is_word" "is_word" (defArgs s_pis_word) (defBody s_pis_word) (defScope s_pis_word) .none kV19 dc19 pm19 an19 cd19 ct19), sl19⟩) (c19 : PySem.W.codeIn K cd19 "is_word" = true) (k19 : PySem.W.keepIn K (.ref f19) = true)
    (a20 : PySem.W.nsIn K mainGlobals "is_just" = some (some (.ref f20))) (l20 : K.lookup f20 = some ⟨oc20, od20, .func (PySem.W.fnOf "is_just" "is_just" (defArgs s_pis_just) (defBody s_pis_just) (defScope s_pis_just) .none kV20 dc20 pm20 an20 cd20 ct20), sl20⟩) (c20 : PySem.W.codeIn K cd20 "is_just" = true) (k20 : PySem.W.keepIn K (.ref f20) = true)
    (a21 : PySem.W.nsIn K mainGlobals "state_of" = some (some (.ref f21))) (l21 : K.lookup f21 = some ⟨oc21, od21, .func (PySem.W.fnOf "state_of" "state_of" (defArgs s_pstate_of) (defBody s_pstate_of) (defScope s_pstate_of) .none kV21 dc21 pm21 an21 cd21 ct21), sl21⟩) (c21 : PySem.W.codeIn K cd21 "state_of" = true) (k21 : PySem.W.keepIn K (.ref f21) = true)
    (a22 : PySem.W.nsIn K mainGlobals "pairs_right" = some (some (.ref f22))) (l22 : K.lookup f22 = some ⟨oc22, od22, .func (PySem.W.fnOf "pairs_right" "pairs_right" (defArgs s_ppairs_right) (defBody s_ppairs_right) (defScope s_ppairs_right) .none kV22 dc22 pm22 an22 cd22 ct22), sl22⟩) (c22 : PySem.W.codeIn K cd22 "pairs_right" = true) (k22 : PySem.W.keepIn K (.ref f22) = true)
    (a23 : PySem.W.nsIn K mainGlobals "does_all" = some (some (.ref f23))) (l23 : K.lookup f23 = some ⟨oc23, od23, .func (PySem.W.fnOf "does_all" "does_all" (defArgs s_pdoes_all) (defBody s_pdoes_all) (defScope s_pdoes_all) .none kV23 dc23 pm23 an23 cd23 ct23), sl23⟩) (c23 : PySem.W.codeIn K cd23 "does_all" = true) (k23 : PySem.W.keepIn K (.ref f23) = true)
    (a24 : PySem.W.nsIn K mainGlobals "all_states" = some (some (.ref f24))) (l24 : K.lookup f24 = some ⟨oc24, od24, .func (PySem.W.fnOf "all_states" "all_states" (defArgs s_pall_states) (defBody s_pall_states) (defScope s_pall_states) .none kV24 dc24 pm24 an24 cd24 ct24), sl24⟩) (c24 : PySem.W.codeIn K cd24 "all_states" = true) (k24 : PySem.W.keepIn K (.ref f24) = true)
    (a25 : PySem.W.nsIn K mainGlobals "listed" = some (some (.ref f25))) (l25 : K.lookup f25 = some ⟨oc25, od25, .func (PySem.W.fnOf "listed" "listed" (defArgs s_plisted) (defBody s_plisted) (defScope s_plisted) .none kV25 dc25 pm25 an25 cd25 ct25), sl25⟩) (c25 : PySem.W.codeIn K cd25 "listed" = true) (k25 : PySem.W.keepIn K (.ref f25) = true)
    (a26 : PySem.W.nsIn K mainGlobals "least" = some (some (.ref f26))) (l26 : K.lookup f26 = some ⟨oc26, od26, .func (PySem.W.fnOf "least" "least" (defArgs s_pleast) (defBody s_pleast) (defScope s_pleast) .none kV26 dc26 pm26 an26 cd26 ct26), sl26⟩) (c26 : PySem.W.codeIn K cd26 "least" = true) (k26 : PySem.W.keepIn K (.ref f26) = true)
    (a27 : PySem.W.nsIn K mainGlobals "least_holds" = some (some (.ref f27))) (l27 : K.lookup f27 = some ⟨oc27, od27, .func (PySem.W.fnOf "least_holds" "least_holds" (defArgs s_pleast_holds) (defBody s_pleast_holds) (defScope s_pleast_holds) .none kV27 dc27 pm27 an27 cd27 ct27), sl27⟩) (c27 : PySem.W.codeIn K cd27 "least_holds" = true) (k27 : PySem.W.keepIn K (.ref f27) = true)
    (a28 : PySem.W.nsIn K mainGlobals "_law_some_table" = some (some (.ref f28))) (l28 : K.lookup f28 = some ⟨oc28, od28, .func (PySem.W.fnOf "_law_some_table" "_law_some_table" (defArgs s_lsome_table) (defBody s_lsome_table) (defScope s_lsome_table) .none kV28 dc28 pm28 an28 cd28 ct28), sl28⟩) (c28 : PySem.W.codeIn K cd28 "_law_some_table" = true) (k28 : PySem.W.keepIn K (.ref f28) = true)
    (a29 : PySem.W.nsIn K mainGlobals "_law_wanted" = some (some (.ref f29))) (l29 : K.lookup f29 = some ⟨oc29, od29, .func (PySem.W.fnOf "_law_wanted" "_law_wanted" (defArgs s_lwanted) (defBody s_lwanted) (defScope s_lwanted) .none kV29 dc29 pm29 an29 cd29 ct29), sl29⟩) (c29 : PySem.W.codeIn K cd29 "_law_wanted" = true) (k29 : PySem.W.keepIn K (.ref f29) = true)
    (a30 : PySem.W.nsIn K mainGlobals "_law_run" = some (some (.ref f30))) (l30 : K.lookup f30 = some ⟨oc30, od30, .func (PySem.W.fnOf "_law_run" "_law_run" (defArgs s_lrun) (defBody s_lrun) (defScope s_lrun) .none kV30 dc30 pm30 an30 cd30 ct30), sl30⟩) (c30 : PySem.W.codeIn K cd30 "_law_run" = true) (k30 : PySem.W.keepIn K (.ref f30) = true)
    (a31 : PySem.W.nsIn K mainGlobals "_law_behind" = some (some (.ref f31))) (l31 : K.lookup f31 = some ⟨oc31, od31, .func (PySem.W.fnOf "_law_behind" "_law_behind" (defArgs s_lbehind) (defBody s_lbehind) (defScope s_lbehind) .none kV31 dc31 pm31 an31 cd31 ct31), sl31⟩) (c31 : PySem.W.codeIn K cd31 "_law_behind" = true) (k31 : PySem.W.keepIn K (.ref f31) = true)
    (a32 : PySem.W.nsIn K mainGlobals "law" = some (some (.ref f32))) (l32 : K.lookup f32 = some ⟨oc32, od32, .func (PySem.W.fnOf "law" "law" (defArgs s_law69) (defBody s_law69) (defScope s_law69) .none kV32 dc32 pm32 an32 cd32 ct32), sl32⟩) (c32 : PySem.W.codeIn K cd32 "law" = true) (k32 : PySem.W.keepIn K (.ref f32) = true)
    (z_len : PySem.W.nsIn K mainGlobals "len" = some none)
    (z_range : PySem.W.nsIn K mainGlobals "range" = some none)
    (z_abs : PySem.W.nsIn K mainGlobals "abs" = some none)
    (z_max : PySem.W.nsIn K mainGlobals "max" = some none)
    (z_min : PySem.W.nsIn K mainGlobals "min" = some none)
    (z_int : PySem.W.nsIn K mainGlobals "int" = some none)
    (z_str : PySem.W.nsIn K mainGlobals "str" = some none)
    (z_tuple : PySem.W.nsIn K mainGlobals "tuple" = some none)
    (z_list : PySem.W.nsIn K mainGlobals "list" = some none)
    (z_all : PySem.W.nsIn K mainGlobals "all" = some none)
    (z_any : PySem.W.nsIn K mainGlobals "any" = some none)
    (z_isinstance : PySem.W.nsIn K mainGlobals "isinstance" = some none)
    (z_divmod : PySem.W.nsIn K mainGlobals "divmod" = some none)
    (z_sum : PySem.W.nsIn K mainGlobals "sum" = some none)
    (z_zip : PySem.W.nsIn K mainGlobals "zip" = some none)
    (z_enumerate : PySem.W.nsIn K mainGlobals "enumerate" = some none)
    (z_reversed : PySem.W.nsIn K mainGlobals "reversed" = some none)
    (z_sorted : PySem.W.nsIn K mainGlobals "sorted" = some none)
    (z_dict : PySem.W.nsIn K mainGlobals "dict" = some none)
    (z_set : PySem.W.nsIn K mainGlobals "set" = some none)
    (z_bool : PySem.W.nsIn K mainGlobals "bool" = some none)
    {qt_BYTES : Tok} (qa_BYTES : PySem.W.nsIn K mainGlobals "BYTES" = some (some (.int 256 qt_BYTES)))
    {q_OTHER_PARTS : Addr} {qi_OTHER_PARTS : Array DictEntry} {qn_OTHER_PARTS : Nat} (qa_OTHER_PARTS : PySem.W.nsIn K mainGlobals "OTHER_PARTS" = some (some (.ref q_OTHER_PARTS))) (ql_OTHER_PARTS : K.lookup q_OTHER_PARTS = some ⟨.type "dict", none, .dict qi_OTHER_PARTS qn_OTHER_PARTS, #[]⟩) (qk_OTHER_PARTS : PySem.W.KeysLit w.params qi_OTHER_PARTS.toList) (qs_OTHER_PARTS : (q_OTHER_PARTS == sysModules) = false) (qe_OTHER_PARTS : dctIs [("look", (.str "ct")), ("mark", (.str "m"))] qi_OTHER_PARTS.toList = true)
    {q_PARTS : Addr} {qi_PARTS : Array DictEntry} {qn_PARTS : Nat} (qa_PARTS : PySem.W.nsIn K mainGlobals "PARTS" = some (some (.ref q_PARTS))) (ql_PARTS : K.lookup q_PARTS = some ⟨.type "dict", none, .dict qi_PARTS qn_PARTS, #[]⟩) (qk_PARTS : PySem.W.KeysLit w.params qi_PARTS.toList) (qs_PARTS : (q_PARTS == sysModules) = false) (qe_PARTS : dctIs [("put", (.str "cb")), ("copy", (.str "cc")), ("add", (.str "cc")), ("addc", (.str "cc")), ("and", (.str "cc")), ("or", (.str "cc")), ("left", (.str "c")), ("right", (.str "c"))] qi_PARTS.toList = true)
    {qt_MOST_TABLES : Tok} (qa_MOST_TABLES : PySem.W.nsIn K mainGlobals "MOST_TABLES" = some (some (.int 16 qt_MOST_TABLES)))
    {qt_MOST_ROWS : Tok} (qa_MOST_ROWS : PySem.W.nsIn K mainGlobals "MOST_ROWS" = some (some (.int 9000 qt_MOST_ROWS)))
    {c_LoftError : Addr} (n_LoftError : PySem.W.nsIn K mainGlobals "LoftError" = some (some (.ref c_LoftError)))
    {c_NoRow : Addr} (n_NoRow : PySem.W.nsIn K mainGlobals "NoRow" = some (some (.ref c_NoRow)))
    {c_NoTable : Addr} (n_NoTable : PySem.W.nsIn K mainGlobals "NoTable" = some (some (.ref c_NoTable)))
    (b1_LoftError : PySem.W.readsIn K c_LoftError (.type "type") = true)
    (b2_LoftError : PySem.W.specialIn K (.ref c_LoftError) "__getattribute__" = some (some (.builtin "type.__getattribute__")))
    (b3_LoftError : PySem.W.findCls K (.ref c_LoftError) (.type "type") "__init__" = some (.val (.builtin "ValueError.__init__")))
    {nm_NoRow q_NoRow : Str} {N_NoRow i_NoRow : Addr} {bs_NoRow : List Value} {sn_NoRow : List Str} {sub_NoRow : List Value} {ab_NoRow : Bool} {col_NoRow : Option Bool} {dd_NoRow : Option Addr} {k0_NoRow k1_NoRow k2_NoRow k3_NoRow k5_NoRow : Option Value}
    (l_NoRow : K.lookup c_NoRow = some (excClassObj nm_NoRow q_NoRow c_NoRow N_NoRow bs_NoRow [.ref c_LoftError, .type "ValueError", .type "Exception", .type "BaseException", .type "object"] true sn_NoRow sub_NoRow ab_NoRow col_NoRow dd_NoRow k0_NoRow k1_NoRow k2_NoRow k3_NoRow k5_NoRow "ValueError.__new__"))
    (s_NoRow : PySem.W.findIn K (.ref c_NoRow) "__setattr__" = some (some (.builtin "object.__setattr__")))
    (e_NoRow : PySem.W.subIn K (.ref c_NoRow) (.type "BaseException") = some true)
    (t_NoRow : PySem.W.typeIn K (.ref c_NoRow) = some (.type "type"))
    (p_NoRow : PySem.W.keepIn K (.ref c_NoRow) = true)
    (i_NoRow_ : PySem.W.findIn K (.ref c_NoRow) "__init__" = some (some (.ref i_NoRow)))
    (j_NoRow : PySem.W.typeIn K (.ref i_NoRow) = some (.type "function"))
    (f_NoRow_at : PySem.W.findIn K (.ref c_NoRow) "at" = some none)
    {io_NoRow ik_NoRow id_NoRow ip_NoRow ic_NoRow it_NoRow : Value} {iod_NoRow ia_NoRow : Option Addr} {is_NoRow : Array (Option Value)}
    (g_NoRow : K.lookup i_NoRow = some ⟨io_NoRow, iod_NoRow, .func (PySem.W.fnOf "__init__" "NoRow.__init__" (defArgs s_ini_NoRow) (defBody s_ini_NoRow) (defScope s_ini_NoRow) .none ik_NoRow id_NoRow ip_NoRow ia_NoRow ic_NoRow it_NoRow), is_NoRow⟩)
    (h_NoRow_ : PySem.W.codeIn K ic_NoRow "NoRow.__init__" = true)
    (m_NoRow_ : PySem.W.keepIn K (.ref i_NoRow) = true)
    {nm_NoTable q_NoTable : Str} {N_NoTable i_NoTable : Addr} {bs_NoTable : List Value} {sn_NoTable : List Str} {sub_NoTable : List Value} {ab_NoTable : Bool} {col_NoTable : Option Bool} {dd_NoTable : Option Addr} {k0_NoTable k1_NoTable k2_NoTable k3_NoTable k5_NoTable : Option Value}
    (l_NoTable : K.lookup c_NoTable = some (excClassObj nm_NoTable q_NoTable c_NoTable N_NoTable bs_NoTable [.ref c_LoftError, .type "ValueError", .type "Exception", .type "BaseException", .type "object"] true sn_NoTable sub_NoTable ab_NoTable col_NoTable dd_NoTable k0_NoTable k1_NoTable k2_NoTable k3_NoTable k5_NoTable "ValueError.__new__"))
    (s_NoTable : PySem.W.findIn K (.ref c_NoTable) "__setattr__" = some (some (.builtin "object.__setattr__")))
    (e_NoTable : PySem.W.subIn K (.ref c_NoTable) (.type "BaseException") = some true)
    (t_NoTable : PySem.W.typeIn K (.ref c_NoTable) = some (.type "type"))
    (p_NoTable : PySem.W.keepIn K (.ref c_NoTable) = true)
    (i_NoTable_ : PySem.W.findIn K (.ref c_NoTable) "__init__" = some (some (.ref i_NoTable)))
    (j_NoTable : PySem.W.typeIn K (.ref i_NoTable) = some (.type "function"))
    (f_NoTable_at : PySem.W.findIn K (.ref c_NoTable) "at" = some none)
    {io_NoTable ik_NoTable id_NoTable ip_NoTable ic_NoTable it_NoTable : Value} {iod_NoTable ia_NoTable : Option Addr} {is_NoTable : Array (Option Value)}
    (g_NoTable : K.lookup i_NoTable = some ⟨io_NoTable, iod_NoTable, .func (PySem.W.fnOf "__init__" "NoTable.__init__" (defArgs s_ini_NoTable) (defBody s_ini_NoTable) (defScope s_ini_NoTable) .none ik_NoTable id_NoTable ip_NoTable ia_NoTable ic_NoTable it_NoTable), is_NoTable⟩)
    (h_NoTable_ : PySem.W.codeIn K ic_NoTable "NoTable.__init__" = true)
    (m_NoTable_ : PySem.W.keepIn K (.ref i_NoTable) = true)
    : ∃ fd : FuncData, (∀ (s : Shared) (u : Value), BindsTo s fd ⟨[u], []⟩ [("_law_script", u)]) ∧ ∀ base : Heap, K.In base → base.Ns mainGlobals mg → FnOk l.prog w K mg base (L2N.CX l.prog w) 16 fa fd ["_law_script"] (spF K mg 1 [] f_law69) := by
  have e := hfa.symm.trans (PySem.W.mg_of X G a32)
  cases e
  have B : Bn mg := ⟨PySem.W.mg_none_of X G z_len, PySem.W.mg_none_of X G z_range, PySem.W.mg_none_of X G z_abs, PySem.W.mg_none_of X G z_max, PySem.W.mg_none_of X G z_min, PySem.W.mg_none_of X G z_int, PySem.W.mg_none_of X G z_str, PySem.W.mg_none_of X G z_tuple, PySem.W.mg_none_of X G z_list, PySem.W.mg_none_of X G z_all, PySem.W.mg_none_of X G z_any, PySem.W.mg_none_of X G z_isinstance, PySem.W.mg_none_of X G z_divmod, PySem.W.mg_none_of X G z_sum, PySem.W.mg_none_of X G z_zip, PySem.W.mg_none_of X G z_enumerate, PySem.W.mg_none_of X G z_reversed, PySem.W.mg_none_of X G z_sorted, PySem.W.mg_none_of X G z_dict, PySem.W.mg_none_of X G z_set, PySem.W.mg_none_of X G z_bool⟩
  have c_BYTES : Cst K mg "BYTES" (.int 256) := cst_int (PySem.W.mg_of X G qa_BYTES)
  have c_OTHER_PARTS : DCst K w mg "OTHER_PARTS" [("look", (.str "ct")), ("mark", (.str "m"))] := ⟨q_OTHER_PARTS, _, _, PySem.W.mg_of X G qa_OTHER_PARTS, ⟨ql_OTHER_PARTS, qk_OTHER_PARTS, qs_OTHER_PARTS⟩, qe_OTHER_PARTS⟩
  have c_PARTS : DCst K w mg "PARTS" [("put", (.str "cb")), ("copy", (.str "cc")), ("add", (.str "cc")), ("addc", (.str "cc")), ("and", (.str "cc")), ("or", (.str "cc")), ("left", (.str "c")), ("right", (.str "c"))] := ⟨q_PARTS, _, _, PySem.W.mg_of X G qa_PARTS, ⟨ql_PARTS, qk_PARTS, qs_PARTS⟩, qe_PARTS⟩
  have c_MOST_TABLES : Cst K mg "MOST_TABLES" (.int 16) := cst_int (PySem.W.mg_of X G qa_MOST_TABLES)
  have c_MOST_ROWS : Cst K mg "MOST_ROWS" (.int 9000) := cst_int (PySem.W.mg_of X G qa_MOST_ROWS)
  have F0 := fun_mk (st := s_lmixed) l0 c0 k0
  have b0 := F0.binds (ps := ["_law_cell_here", "_law_k", "_law_salt"]) fun _ _ _ _ _ _ us hl => match us, hl with | [_, _, _], _ => rfl
  have F1 := fun_mk (st := s_ldraws) l1 c1 k1
  have b1 := F1.binds (ps := ["_law_cell_here", "_law_salt", "_law_widths"]) fun _ _ _ _ _ _ us hl => match us, hl with | [_, _, _], _ => rfl
  have F2 := fun_mk (st := s_lcell) l2 c2 k2
  have b2 := F2.binds (ps := ["_law_script", "_law_k"]) fun _ _ _ _ _ _ us hl => match us, hl with | [_, _], _ => rfl
  have F3 := fun_mk (st := s_lsome_row) l3 c3 k3
  have b3 := F3.binds (ps := ["_law_cell_here", "_law_salt", "_law_cells", "_law_tables"]) fun _ _ _ _ _ _ us hl => match us, hl with | [_, _, _, _], _ => rfl
  have F4 := fun_mk (st := s_lmenu) l4 c4 k4
  have b4 := F4.binds (ps := ["_law_script", "_law_at", "_law_cells", "_law_tables"]) fun _ _ _ _ _ _ us hl => match us, hl with | [_, _, _, _], _ => rfl
  have F5 := fun_mk (st := s_lstarts) l5 c5 k5
  have b5 := F5.binds (ps := ["_law_script", "_law_at", "_law_cells"]) fun _ _ _ _ _ _ us hl => match us, hl with | [_, _, _], _ => rfl
  have F6 := fun_mk (st := s_lall_words) l6 c6 k6
  have b6 := F6.binds (ps := ["_law_many", "_law_most"]) fun _ _ _ _ _ _ us hl => match us, hl with | [_, _], _ => rfl
  have F7 := fun_mk (st := s_lone_each) l7 c7 k7
  have b7 := F7.binds (ps := ["_law_pairs", "_law_turn"]) fun _ _ _ _ _ _ us hl => match us, hl with | [_, _], _ => rfl
  have F8 := fun_mk (st := s_pstarts_of) l8 c8 k8
  have b8 := F8.binds (ps := ["cases"]) fun _ _ _ _ _ _ us hl => match us, hl with | [_], _ => rfl
  have F9 := fun_mk (st := s_pis_table) l9 c9 k9
  have b9 := F9.binds (ps := ["numbers"]) fun _ _ _ _ _ _ us hl => match us, hl with | [_], _ => rfl
  have F10 := fun_mk (st := s_pparts_due) l10 c10 k10
  have b10 := F10.binds (ps := ["word"]) fun _ _ _ _ _ _ us hl => match us, hl with | [_], _ => rfl
  have F11 := fun_mk (st := s_pis_row) l11 c11 k11
  have b11 := F11.binds (ps := ["row", "cells", "tables"]) fun _ _ _ _ _ _ us hl => match us, hl with | [_, _, _], _ => rfl
  have F12 := fun_mk (st := s_phold_program) l12 c12 k12
  have b12 := F12.binds (ps := ["program", "cells"]) fun _ _ _ _ _ _ us hl => match us, hl with | [_, _], _ => rfl
  have F13 := fun_mk (st := s_pheld_menu) l13 c13 k13
  have b13 := F13.binds (ps := ["tables", "menu", "starts"]) fun _ _ _ _ _ _ us hl => match us, hl with | [_, _, _], _ => rfl
  have F14 := fun_mk (st := s_pshift_step) l14 c14 k14
  have b14 := F14.binds (ps := ["word", "cells", "one", "mark"]) fun _ _ _ _ _ _ us hl => match us, hl with | [_, _, _, _], _ => rfl
  have F15 := fun_mk (st := s_psum_step) l15 c15 k15
  have b15 := F15.binds (ps := ["word", "cells", "one", "other", "mark"]) fun _ _ _ _ _ _ us hl => match us, hl with | [_, _, _, _, _], _ => rfl
  have F16 := fun_mk (st := s_pstep) l16 c16 k16
  have b16 := F16.binds (ps := ["tables", "row", "cells", "mark"]) fun _ _ _ _ _ _ us hl => match us, hl with | [_, _, _, _], _ => rfl
  have F17 := fun_mk (st := s_pbehind_row) l17 c17 k17
  have b17 := F17.binds (ps := ["tables", "row", "state"]) fun _ _ _ _ _ _ us hl => match us, hl with | [_, _, _], _ => rfl
  have F18 := fun_mk (st := s_ppairs_shut) l18 c18 k18
  have b18 := F18.binds (ps := ["tables", "menu", "most", "pairs"]) fun _ _ _ _ _ _ us hl => match us, hl with | [_, _, _, _], _ => rfl
  have F19 := fun_mk (st := s_pis_word) l19 c19 k19
  have b19 := F19.binds (ps := ["thing", "many", "most"]) fun _ _ _ _ _ _ us hl => match us, hl with | [_, _, _], _ => rfl
  have F20 := fun_mk (st := s_pis_just) l20 c20 k20
  have b20 := F20.binds (ps := ["thing", "due"]) fun _ _ _ _ _ _ us hl => match us, hl with | [_, _], _ => rfl
  have F21 := fun_mk (st := s_pstate_of) l21 c21 k21
  have b21 := F21.binds (ps := ["tables", "menu", "starts", "word"]) fun _ _ _ _ _ _ us hl => match us, hl with | [_, _, _, _], _ => rfl
  have F22 := fun_mk (st := s_ppairs_right) l22 c22 k22
  have b22 := F22.binds (ps := ["tables", "menu", "starts", "most", "pairs"]) fun _ _ _ _ _ _ us hl => match us, hl with | [_, _, _, _, _], _ => rfl
  have F23 := fun_mk (st := s_pdoes_all) l23 c23 k23
  have b23 := F23.binds (ps := ["state", "cases"]) fun _ _ _ _ _ _ us hl => match us, hl with | [_, _], _ => rfl
  have F24 := fun_mk (st := s_pall_states) l24 c24 k24
  have b24 := F24.binds (ps := ["tables", "menu", "starts", "most"]) fun _ _ _ _ _ _ us hl => match us, hl with | [_, _, _, _], _ => rfl
  have F25 := fun_mk (st := s_plisted) l25 c25 k25
  have b25 := F25.binds (ps := ["tables", "menu", "starts", "most"]) fun _ _ _ _ _ _ us hl => match us, hl with | [_, _, _, _], _ => rfl
  have F26 := fun_mk (st := s_pleast) l26 c26 k26
  have b26 := F26.binds (ps := ["tables", "menu", "cases", "most"]) fun _ _ _ _ _ _ us hl => match us, hl with | [_, _, _, _], _ => rfl
  have F27 := fun_mk (st := s_pleast_holds) l27 c27 k27
  have b27 := F27.binds (ps := ["tables", "menu", "cases", "most", "thing"]) fun _ _ _ _ _ _ us hl => match us, hl with | [_, _, _, _, _], _ => rfl
  have F28 := fun_mk (st := s_lsome_table) l28 c28 k28
  have b28 := F28.binds (ps := ["_law_cell_here", "_law_salt"]) fun _ _ _ _ _ _ us hl => match us, hl with | [_, _], _ => rfl
  have F29 := fun_mk (st := s_lwanted) l29 c29 k29
  have b29 := F29.binds (ps := ["_law_state", "_law_bytes_due"]) fun _ _ _ _ _ _ us hl => match us, hl with | [_, _], _ => rfl
  have F30 := fun_mk (st := s_lrun) l30 c30 k30
  have b30 := F30.binds (ps := ["_law_program", "_law_cells", "_law_mark"]) fun _ _ _ _ _ _ us hl => match us, hl with | [_, _, _], _ => rfl
  have F31 := fun_mk (st := s_lbehind) l31 c31 k31
  have b31 := F31.binds (ps := ["_law_tables", "_law_row", "_law_state"]) fun _ _ _ _ _ _ us hl => match us, hl with | [_, _, _], _ => rfl
  have F32 := fun_mk (st := s_law69) l32 c32 k32
  have b32 := F32.binds (ps := ["_law_script"]) fun _ _ _ _ _ _ us hl => match us, hl with | [_], _ => rfl
  refine ⟨PySem.W.fnOf "law" "law" (defArgs s_law69) (defBody s_law69) (defScope s_law69) .none kV32 dc32 pm32 an32 cd32 ct32, fun s v => .of_eq rfl, fun base _ _ => ?_⟩
  have B_LoftError : Bas K mg "LoftError" := ⟨c_LoftError, PySem.W.mg_of X G n_LoftError, b1_LoftError, b2_LoftError, b3_LoftError⟩
  have FI_NoRow := fun_mk (st := s_ini_NoRow) g_NoRow h_NoRow_ m_NoRow_
  have bI_NoRow := FI_NoRow.binds (ps := ["self", "at"]) fun _ _ _ _ _ _ us hl => match us, hl with | [_, _], _ => rfl
  have FI_NoTable := fun_mk (st := s_ini_NoTable) g_NoTable h_NoTable_ m_NoTable_
  have bI_NoTable := FI_NoTable.binds (ps := ["self", "at"]) fun _ _ _ _ _ _ us hl => match us, hl with | [_, _], _ => rfl
  have xcl1_NoTable_at : Cl1 l.prog w K mg base "NoTable" "at" := ⟨_, _, _, _, owX_mk (PySem.W.mg_of X G n_NoTable) l_NoTable rfl s_NoTable e_NoTable t_NoTable p_NoTable i_NoTable_ j_NoTable, f_NoTable_at, ini_NoTable FI_NoTable B_LoftError, bI_NoTable⟩
  have xcl1_NoRow_at : Cl1 l.prog w K mg base "NoRow" "at" := ⟨_, _, _, _, owX_mk (PySem.W.mg_of X G n_NoRow) l_NoRow rfl s_NoRow e_NoRow t_NoRow p_NoRow i_NoRow_ j_NoRow, f_NoRow_at, ini_NoRow FI_NoRow B_LoftError, bI_NoRow⟩
  have h_lmixed : Fd l.prog w K mg base "_law_mixed" 2 ["_law_cell_here", "_law_k", "_law_salt"] [] f_lmixed := ⟨_, _, ok_lmixed F0 B    , PySem.W.mg_of X G a0, k0, b0⟩
  have h_ldraws : Fd l.prog w K mg base "_law_draws" 4 ["_law_cell_here", "_law_salt", "_law_widths"] [] f_ldraws := ⟨_, _, ok_ldraws F1 B h_lmixed   , PySem.W.mg_of X G a1, k1, b1⟩
  have h_lcell : Fd l.prog w K mg base "_law_cell" 2 ["_law_script", "_law_k"] [] f_lcell := ⟨_, _, ok_lcell F2 B    , PySem.W.mg_of X G a2, k2, b2⟩
  have h_lsome_row : Fd l.prog w K mg base "_law_some_row" 6 ["_law_cell_here", "_law_salt", "_law_cells", "_law_tables"] [] f_lsome_row := ⟨_, _, ok_lsome_row F3 B h_ldraws   , PySem.W.mg_of X G a3, k3, b3⟩
  have h_lmenu : Fd l.prog w K mg base "_law_menu" 8 ["_law_script", "_law_at", "_law_cells", "_law_tables"] [] f_lmenu := ⟨_, _, ok_lmenu F4 B h_ldraws h_lcell h_lsome_row   , PySem.W.mg_of X G a4, k4, b4⟩
  have h_lstarts : Fd l.prog w K mg base "_law_starts" 6 ["_law_script", "_law_at", "_law_cells"] [] f_lstarts := ⟨_, _, ok_lstarts F5 B h_ldraws h_lcell   , PySem.W.mg_of X G a5, k5, b5⟩
  have h_lall_words : Fd l.prog w K mg base "_law_all_words" 2 ["_law_many", "_law_most"] [] f_lall_words := ⟨_, _, ok_lall_words F6 B    , PySem.W.mg_of X G a6, k6, b6⟩
  have h_lone_each : Fd l.prog w K mg base "_law_one_each" 2 ["_law_pairs", "_law_turn"] [] f_lone_each := ⟨_, _, ok_lone_each F7 B    , PySem.W.mg_of X G a7, k7, b7⟩
  have h_pstarts_of : Fd l.prog w K mg base "starts_of" 2 ["cases"] [] f_pstarts_of := ⟨_, _, ok_pstarts_of F8 B    , PySem.W.mg_of X G a8, k8, b8⟩
  have h_pis_table : Fd l.prog w K mg base "is_table" 2 ["numbers"] [] f_pis_table := ⟨_, _, ok_pis_table F9 B    c_BYTES, PySem.W.mg_of X G a9, k9, b9⟩
  have h_pparts_due : Fd l.prog w K mg base "parts_due" 2 ["word"] [] f_pparts_due := ⟨_, _, ok_pparts_due F10 B    c_OTHER_PARTS c_PARTS, PySem.W.mg_of X G a10, k10, b10⟩
  have h_pis_row : Fd l.prog w K mg base "is_row" 4 ["row", "cells", "tables"] [] f_pis_row := ⟨_, _, ok_pis_row F11 B h_pparts_due   c_BYTES, PySem.W.mg_of X G a11, k11, b11⟩
  have h_phold_program : Fd l.prog w K mg base "hold_program" 6 ["program", "cells"] [] f_phold_program := ⟨_, _, ok_phold_program F12 B h_pis_table h_pis_row  xcl1_NoTable_at xcl1_NoRow_at c_MOST_TABLES c_MOST_ROWS, PySem.W.mg_of X G a12, k12, b12⟩
  have h_pheld_menu : Fd l.prog w K mg base "held_menu" 8 ["tables", "menu", "starts"] [] f_pheld_menu := ⟨_, _, ok_pheld_menu F13 B h_phold_program   , PySem.W.mg_of X G a13, k13, b13⟩
  have h_pshift_step : Fd l.prog w K mg base "shift_step" 2 ["word", "cells", "one", "mark"] [1] f_pshift_step := ⟨_, _, ok_pshift_step F14 B    c_BYTES, PySem.W.mg_of X G a14, k14, b14⟩
  have h_psum_step : Fd l.prog w K mg base "sum_step" 2 ["word", "cells", "one", "other", "mark"] [1] f_psum_step := ⟨_, _, ok_psum_step F15 B    c_BYTES, PySem.W.mg_of X G a15, k15, b15⟩
  have h_pstep : Fd l.prog w K mg base "step" 4 ["tables", "row", "cells", "mark"] [2] f_pstep := ⟨_, _, ok_pstep F16 B h_pshift_step h_psum_step   , PySem.W.mg_of X G a16, k16, b16⟩
  have h_pbehind_row : Fd l.prog w K mg base "behind_row" 6 ["tables", "row", "state"] [] f_pbehind_row := ⟨_, _, ok_pbehind_row F17 B h_pstep   , PySem.W.mg_of X G a17, k17, b17⟩
  have h_ppairs_shut : Fd l.prog w K mg base "pairs_shut" 8 ["tables", "menu", "most", "pairs"] [] f_ppairs_shut := ⟨_, _, ok_ppairs_shut F18 B h_pbehind_row   , PySem.W.mg_of X G a18, k18, b18⟩
  have h_pis_word : Fd l.prog w K mg base "is_word" 2 ["thing", "many", "most"] [] f_pis_word := ⟨_, _, ok_pis_word F19 B    , PySem.W.mg_of X G a19, k19, b19⟩
  have h_pis_just : Fd l.prog w K mg base "is_just" 10 ["thing", "due"] [] f_pis_just := ⟨_, _, ok_pis_just F20 (PySem.W.mg_of X G a20) k20 b20 B     8, PySem.W.mg_of X G a20, k20, b20⟩
  have h_pstate_of : Fd l.prog w K mg base "state_of" 8 ["tables", "menu", "starts", "word"] [] f_pstate_of := ⟨_, _, ok_pstate_of F21 B h_pbehind_row   , PySem.W.mg_of X G a21, k21, b21⟩
  have h_ppairs_right : Fd l.prog w K mg base "pairs_right" 12 ["tables", "menu", "starts", "most", "pairs"] [] f_ppairs_right := ⟨_, _, ok_ppairs_right F22 B h_pis_word h_pis_just h_pstate_of   , PySem.W.mg_of X G a22, k22, b22⟩
  have h_pdoes_all : Fd l.prog w K mg base "does_all" 2 ["state", "cases"] [] f_pdoes_all := ⟨_, _, ok_pdoes_all F23 B    , PySem.W.mg_of X G a23, k23, b23⟩
  have h_pall_states : Fd l.prog w K mg base "all_states" 8 ["tables", "menu", "starts", "most"] [] f_pall_states := ⟨_, _, ok_pall_states F24 B h_pbehind_row   , PySem.W.mg_of X G a24, k24, b24⟩
  have h_plisted : Fd l.prog w K mg base "listed" 10 ["tables", "menu", "starts", "most"] [] f_plisted := ⟨_, _, ok_plisted F25 B h_pheld_menu h_pall_states   , PySem.W.mg_of X G a25, k25, b25⟩
  have h_pleast : Fd l.prog w K mg base "least" 12 ["tables", "menu", "cases", "most"] [] f_pleast := ⟨_, _, ok_pleast F26 B h_plisted h_pstarts_of h_pdoes_all   , PySem.W.mg_of X G a26, k26, b26⟩
  have h_pleast_holds : Fd l.prog w K mg base "least_holds" 14 ["tables", "menu", "cases", "most", "thing"] [] f_pleast_holds := ⟨_, _, ok_pleast_holds F27 B h_pstarts_of h_pheld_menu h_pis_word h_pleast h_ppairs_right h_pdoes_all h_ppairs_shut   , PySem.W.mg_of X G a27, k27, b27⟩
  have h_lsome_table : Fd l.prog w K mg base "_law_some_table" 6 ["_law_cell_here", "_law_salt"] [] f_lsome_table := ⟨_, _, ok_lsome_table F28 B h_ldraws   , PySem.W.mg_of X G a28, k28, b28⟩
  have h_lwanted : Fd l.prog w K mg base "_law_wanted" 2 ["_law_state", "_law_bytes_due"] [] f_lwanted := ⟨_, _, ok_lwanted F29 B    , PySem.W.mg_of X G a29, k29, b29⟩
  have h_lrun : Fd l.prog w K mg base "_law_run" 2 ["_law_program", "_law_cells", "_law_mark"] [] f_lrun := ⟨_, _, ok_lrun F30 B    , PySem.W.mg_of X G a30, k30, b30⟩
  have h_lbehind : Fd l.prog w K mg base "_law_behind" 4 ["_law_tables", "_law_row", "_law_state"] [] f_lbehind := ⟨_, _, ok_lbehind F31 B h_lrun   , PySem.W.mg_of X G a31, k31, b31⟩
  exact ok_law69 F32 B h_ldraws h_lcell h_lsome_table h_lmenu h_lstarts h_lall_words h_lbehind h_lwanted h_lone_each h_pleast_holds   
end Tm
open PySem PySem.W PyProof.Rows in
set_option maxRecDepth 100000 in
set_option maxHeartbeats 0 in
theorem PySem.Challenge.cw_tensloft_k70_none_in_any_order_holds : PySem.Challenge.rw_tensloft_k70_none_in_any_order.Holds := by
  w_on; o_law; k_head; (case hw => w_witness2)
  k_fill
  refine Tm.walk_law (l := PySem.Challenge.rw_tensloft_k70_none_in_any_order) (f := Tm.f_law69) (x := "_law_script") (k := 16) rfl rfl ⟨rfl, by decide, by decide⟩ (fun w h Y => PySem.W.kIn_of Y) Tm.law_true ?F
  case F =>
    intro w mg fa h KX G hmg
    refine' Tm.all_mk KX G hmg ?a0 ?l0 ?c0 ?k0 ?a1 ?l1 ?c1 ?k1 ?a2 ?l2 ?c2 ?k2 ?a3 ?l3 ?c3 ?k3 ?a4 ?l4 ?c4 ?k4 ?a5 ?l5 ?c5 ?k5 ?a6 ?l6 ?c6 ?k6 ?a7 ?l7 ?c7 ?k7 ?a8 ?l8 ?c8 ?k8 ?a9 ?l9 ?c9 ?k9 ?a10 ?l10 ?c10 ?k10 ?a11 ?l11 ?c11 ?k11 ?a12 ?l12 ?c12 ?k12 ?a13 ?l13 ?c13 ?k13 ?a14 ?l14 ?c14 ?k14 ?a15 ?l15 ?c15 ?k15 ?a16 ?l16 ?c16 ?k16 ?a17 ?l17 ?c17 ?k17 ?a18 ?l18 ?c18 ?k18 ?a19 ?l19 ?c19 ?k19 ?a20 ?l20 ?c20 ?k20 ?a21 ?l21 ?c21 ?k21 ?a22 ?l22 ?c22 ?k22 ?a23 ?l23 ?c23 ?k23 ?a24 ?l24 ?c24 ?k24 ?a25 ?l25 ?c25 ?k25 ?a26 ?l26 ?c26 ?k26 ?a27 ?l27 ?c27 ?k27 ?a28 ?l28 ?c28 ?k28 ?a29 ?l29 ?c29 ?k29 ?a30 ?l30 ?c30 ?k30 ?a31 ?l31 ?c31 ?k31 ?a32 ?l32 ?c32 ?k32 ?z_len ?z_range ?z_abs ?z_max ?z_min ?z_int ?z_str ?z_tuple ?z_list ?z_all ?z_any ?z_isinstance ?z_divmod ?z_sum ?z_zip ?z_enumerate ?z_reversed ?z_sorted ?z_dict ?z_set ?z_bool ?qa_BYTES ?qa_OTHER_PARTS ?ql_OTHER_PARTS ?qk_OTHER_PARTS ?qs_OTHER_PARTS ?qe_OTHER_PARTS ?qa_PARTS ?ql_PARTS ?qk_PARTS ?qs_PARTS ?qe_PARTS ?qa_MOST_TABLES ?qa_MOST_ROWS ?n_LoftError ?n_NoRow ?n_NoTable ?b1_LoftError ?b2_LoftError ?b3_LoftError ?l_NoRow ?s_NoRow ?e_NoRow ?t_NoRow ?p_NoRow ?i_NoRow_ ?j_NoRow ?f_NoRow_at ?g_NoRow ?h_NoRow_ ?m_NoRow_ ?l_NoTable ?s_NoTable ?e_NoTable ?t_NoTable ?p_NoTable ?i_NoTable_ ?j_NoTable ?f_NoTable_at ?g_NoTable ?h_NoTable_ ?m_NoTable_
    (case a0 => k_is)
    (case l0 => k_is)
    (case c0 => k_is)
    (case k0 => k_is)
    (case a1 => k_is)
    (case l1 => k_is)
    (case c1 => k_is)
    (case k1 => k_is)
    (case a2 => k_is)
    (case l2 => k_is)
    (case c2 => k_is)
    (case k2 => k_is)
    (case a3 => k_is)
    (case l3 => k_is)
    (case c3 => k_is)
    (case k3 => k_is)
    (case a4 => k_is)
    (case l4 => k_is)
    (case c4 => k_is)
    (case k4 => k_is)
    (case a5 => k_is)
    (case l5 => k_is)
    (case c5 => k_is)
    (case k5 => k_is)
    (case a6 => k_is)
    (case l6 => k_is)
    (case c6 => k_is)
    (case k6 => k_is)
    (case a7 => k_is)
    (case l7 => k_is)
    (case c7 => k_is)
    (case k7 => k_is)
    (case a8 => k_is)
    (case l8 => k_is)
    (case c8 => k_is)
    (case k8 => k_is)
    (case a9 => k_is)
    (case l9 => k_is)
    (case c9 => k_is)
    (case k9 => k_is)
    (case a10 => k_is)
    (case l10 => k_is)
    (case c10 => k_is)
    (case k10 => k_is)
    (case a11 => k_is)
    (case l11 => k_is)
    (case c11 => k_is)
    (case k11 => k_is)
    (case a12 => k_is)
    (case l12 => k_is)
    (case c12 => k_is)
    (case k12 => k_is)
    (case a13 => k_is)
    (case l13 => k_is)
    (case c13 => k_is)
    (case k13 => k_is)
    (case a14 => k_is)
    (case l14 => k_is)
    (case c14 => k_is)
    (case k14 => k_is)
    (case a15 => k_is)
    (case l15 => k_is)
    (case c15 => k_is)
    (case k15 => k_is)
    (case a16 => k_is)
    (case l16 => k_is)
    (case c16 => k_is)
    (case k16 => k_is)
    (case a17 => k_is)
    (case l17 => k_is)
    (case c17 => k_is)
    (case k17 => k_is)
    (case a18 => k_is)
    (case l18 => k_is)
    (case c18 => k_is)
    (case k18 => k_is)
    (case a19 => k_is)
    (case l19 => k_is)
    (case c19 => k_is)
    (case k19 => k_is)
    (case a20 => k_is)
    (case l20 => k_is)
    (case c20 => k_is)
    (case k20 => k_is)
    (case a21 => k_is)
    (case l21 => k_is)
    (case c21 => k_is)
    (case k21 => k_is)
    (case a22 => k_is)
    (case l22 => k_is)
    (case c22 => k_is)
    (case k22 => k_is)
    (case a23 => k_is)
    (case l23 => k_is)
    (case c23 => k_is)
    (case k23 => k_is)
    (case a24 => k_is)
    (case l24 => k_is)
    (case c24 => k_is)
    (case k24 => k_is)
    (case a25 => k_is)
    (case l25 => k_is)
    (case c25 => k_is)
    (case k25 => k_is)
    (case a26 => k_is)
    (case l26 => k_is)
    (case c26 => k_is)
    (case k26 => k_is)
    (case a27 => k_is)
    (case l27 => k_is)
    (case c27 => k_is)
    (case k27 => k_is)
    (case a28 => k_is)
    (case l28 => k_is)
    (case c28 => k_is)
    (case k28 => k_is)
    (case a29 => k_is)
    (case l29 => k_is)
    (case c29 => k_is)
    (case k29 => k_is)
    (case a30 => k_is)
    (case l30 => k_is)
    (case c30 => k_is)
    (case k30 => k_is)
    (case a31 => k_is)
    (case l31 => k_is)
    (case c31 => k_is)
    (case k31 => k_is)
    (case a32 => k_is)
    (case l32 => k_is)
    (case c32 => k_is)
    (case k32 => k_is)
    (case z_len => k_is)
    (case z_range => k_is)
    (case z_abs => k_is)
    (case z_max => k_is)
    (case z_min => k_is)
    (case z_int => k_is)
    (case z_str => k_is)
    (case z_tuple => k_is)
    (case z_list => k_is)
    (case z_all => k_is)
    (case z_any => k_is)
    (case z_isinstance => k_is)
    (case z_divmod => k_is)
    (case z_sum => k_is)
    (case z_zip => k_is)
    (case z_enumerate => k_is)
    (case z_reversed => k_is)
    (case z_sorted => k_is)
    (case z_dict => k_is)
    (case z_set => k_is)
    (case z_bool => k_is)
    (case qa_BYTES => k_is)
    (case qa_OTHER_PARTS => k_is)
    (case ql_OTHER_PARTS => k_is)
    (case qa_PARTS => k_is)
    (case ql_PARTS => k_is)
    (case qa_MOST_TABLES => k_is)
    (case qa_MOST_ROWS => k_is)
    (case n_LoftError => k_is)
    (case n_NoRow => k_is)
    (case n_NoTable => k_is)
    (case b1_LoftError => k_is)
    (case b2_LoftError => k_is)
    (case b3_LoftError => k_is)
    (case l_NoRow => k_is)
    (case s_NoRow => k_is)
    (case e_NoRow => k_is)
    (case t_NoRow => k_is)
    (case p_NoRow => k_is)
    (case i_NoRow_ => k_is)
    (case j_NoRow => k_is)
    (case f_NoRow_at => k_is)
    (case g_NoRow => k_is)
    (case h_NoRow_ => k_is)
    (case m_NoRow_ => k_is)
    (case l_NoTable => k_is)
    (case s_NoTable => k_is)
    (case e_NoTable => k_is)
    (case t_NoTable => k_is)
    (case p_NoTable => k_is)
    (case i_NoTable_ => k_is)
    (case j_NoTable => k_is)
    (case f_NoTable_at => k_is)
    (case g_NoTable => k_is)
    (case h_NoTable_ => k_is)
    (case m_NoTable_ => k_is)
    (case qk_OTHER_PARTS => exact ⟨⟨_, _, rfl, rfl⟩, ⟨_, _, rfl, rfl⟩, True.intro⟩)
    (case qe_OTHER_PARTS => first | kernel_rfl | exact rfl | decide +kernel +revert)
    (case qk_PARTS => exact ⟨⟨_, _, rfl, rfl⟩, ⟨_, _, rfl, rfl⟩, ⟨_, _, rfl, rfl⟩, ⟨_, _, rfl, rfl⟩, ⟨_, _, rfl, rfl⟩, ⟨_, _, rfl, rfl⟩, ⟨_, _, rfl, rfl⟩, ⟨_, _, rfl, rfl⟩, True.intro⟩)
    (case qe_PARTS => first | kernel_rfl | exact rfl | decide +kernel +revert)
    (case qs_OTHER_PARTS => decide +kernel)
    (case qs_PARTS => decide +kernel)
