import PyProof.Rows.All
import Wide.All
import OpenK.AllK
import Wide.FinOn
import HandS.ForMost
import HandS.ForExc
import HandS.Wide
import HandS.Evl
import HandS.TupAny
import HandS.TupMul
import HandS.NoneIn
import HandS.Zip
import HandS.IsInst
import HandS.Text
import HandS.StrMore
import HandS.Comp
import HandS.Style
import KE.KeyNested
import PyProof.StrOps2
import KE.GoesMore
import KE.GoesEnum
import KE.GoesZip
import HandS.ExcCtx
import HandS.ExcOwn
import HandS.ExcInit
import HandS.ExcIs
import HandS.ExcField
import HandS.Replace
import HandS.CallLocal
import HandS.WideBits
import HandS.Conv
import KE.GoesEnumKw
import PyProof.Rows.CallKwBuiltin
import HandS.HotCalls
import HandS.More
import HandS.RaiseMore
import HandS.TupLe
import HandS.Flt
import HandS.TupLen
import HandS.FStr
import HandS.Flow
import HandS.WordsDict
import HandS.Strs
import PyProof.Rows.SortStr
import PyProof.Rows.StrMeet
import KE.GoesComp
import PySem.Challenge.RW_tensloft_k09_bytes_as_text
set_option Elab.async false
set_option linter.all false
set_option maxRecDepth 100000
set_option maxHeartbeats 2000000
namespace Tm
open PySem L2
inductive MV where
  | non | bl (b : Bool) | int (i : Int) | str (x : Str)
  | tup (xs : List MV) | lst (xs : List MV) | own (xs : List MV)
  | raw (v : V) | scr (ns : List Int)
  | fnc (x : Str)
  | obj (C : Str) (fs : List (Str × MV))
  | dct (ks : List Key) (xs : List MV)
  | dow (ks : List Key) (xs : List MV)
  | dot (ks : List MV) (xs : List MV)
instance : Inhabited MV := ⟨.non⟩
abbrev Env := List (Option MV)
structure MX where
  cls : Str
  fs : List (Str × MV)
inductive Res (α : Type) where
  | ok (a : α) | exc (e : MX) (ρ : Env) | stuck
inductive Fl where
  | nx | br | ct | rt (x : MV)
open Evl (Ex ex_rd ex_l ex_t)
theorem _root_.Evl.Ex.back {H H' : Hp} {p : Addr} (e : Ex H H') (h : H' p = none) : H p = none := Evl.fresh_back e h
theorem _root_.Evl.Ex.both {H H' : Hp} {p : Addr} {o : HO} (e : Ex H H') (h : H' p = none) : Ex (upd H p o) (upd H' p o) := fun a u ha => by
  by_cases hp : a = p
  · subst hp; rw [upd_same] at ha ⊢; exact ha
  · rw [upd_ne hp] at ha ⊢; exact e a u ha
theorem _root_.Evl.Ex.updL {H H' : Hp} {p : Addr} {o : HO} (e : Ex H H') (h : H' p = some o) : Ex (upd H p o) H' := fun a u ha => by
  by_cases hp : a = p
  · subst hp; rw [upd_same] at ha; cases ha; exact h
  · rw [upd_ne hp] at ha; exact e a u ha
mutual
def RV (K : PySem.W.Frag) (H : Hp) : MV → V → Prop
  | .non, v => v = .non
  | .bl b, v => v = .bl b
  | .int i, v => v = .int i
  | .str x, v => v = .str x
  | .tup xs, v => ∃ a vs, v = .ref a ∧ SqT K H a vs ∧ RVs K H xs vs
  | .lst xs, v => ∃ a vs, v = .ref a ∧ H a = some (.lst vs) ∧ RVs K H xs vs
  | .own _, _ => False
  | .raw w, v => v = w
  | .scr ns, v => ∃ a, v = .ref a ∧ SqL K H a (ns.map V.int)
  | .fnc x, v => ∃ a, v = .ref a ∧ PySem.W.nsIn K mainGlobals x = some (some (.ref a))
  | .obj _ _, _ => False
  | .dct ks xs, v => ∃ a vs, v = .ref a ∧ H a = some (.dK (ks.zip vs)) ∧ ks.length = xs.length ∧ RVs K H xs vs
  | .dow _ _, _ => False
  | .dot _ _, _ => False
def RVs (K : PySem.W.Frag) (H : Hp) : List MV → List V → Prop
  | [], vs => vs = []
  | x :: xs, vs => ∃ v r, vs = v :: r ∧ RV K H x v ∧ RVs K H xs r
end
mutual
theorem RV.mono {K : PySem.W.Frag} {H H' : Hp} (e : Ex H H') : ∀ (x : MV) (v : V), RV K H x v → RV K H' x v
  | .non, v, h => by unfold RV at h ⊢; exact h
  | .bl b, v, h => by unfold RV at h ⊢; exact h
  | .int i, v, h => by unfold RV at h ⊢; exact h
  | .str x, v, h => by unfold RV at h ⊢; exact h
  | .tup xs, v, h => by
    unfold RV at h ⊢
    obtain ⟨a, vs, e1, e2, e3⟩ := h
    exact ⟨a, vs, e1, ex_t e e2, RVs.mono e xs vs e3⟩
  | .lst xs, v, h => by
    unfold RV at h ⊢
    obtain ⟨a, vs, e1, e2, e3⟩ := h
    exact ⟨a, vs, e1, e _ _ e2, RVs.mono e xs vs e3⟩
  | .own xs, v, h => by unfold RV at h; exact h.elim
  | .raw w, v, h => by unfold RV at h ⊢; exact h
  | .scr ns, v, h => by
    unfold RV at h ⊢
    obtain ⟨a, e1, e2⟩ := h
    exact ⟨a, e1, ex_l e e2⟩
  | .fnc x, v, h => by unfold RV at h ⊢; exact h
  | .obj C fs, v, h => by unfold RV at h; exact h.elim
  | .dct ks xs, v, h => by
    unfold RV at h ⊢
    obtain ⟨a, vs, e1, e2, e3, e4⟩ := h
    exact ⟨a, vs, e1, e _ _ e2, e3, RVs.mono e xs vs e4⟩
  | .dow ks xs, v, h => by unfold RV at h; exact h.elim
  | .dot ks xs, v, h => by unfold RV at h; exact h.elim
theorem RVs.mono {K : PySem.W.Frag} {H H' : Hp} (e : Ex H H') : ∀ (xs : List MV) (vs : List V), RVs K H xs vs → RVs K H' xs vs
  | [], vs, h => by unfold RVs at h ⊢; exact h
  | x :: xs, vs, h => by
    unfold RVs at h ⊢
    obtain ⟨v, r, e1, e2, e3⟩ := h
    exact ⟨v, r, e1, RV.mono e x v e2, RVs.mono e xs r e3⟩
end
section
variable {K : PySem.W.Frag} {H : Hp}
theorem RV.int {i : Int} {v : V} : RV K H (.int i) v ↔ v = .int i := by unfold RV; rfl
theorem RV.bl {i : Bool} {v : V} : RV K H (.bl i) v ↔ v = .bl i := by unfold RV; rfl
theorem RV.str {i : Str} {v : V} : RV K H (.str i) v ↔ v = .str i := by unfold RV; rfl
theorem RV.non {v : V} : RV K H .non v ↔ v = .non := by unfold RV; rfl
theorem RV.raw {w v : V} : RV K H (.raw w) v ↔ v = w := by unfold RV; rfl
theorem RV.tup {xs : List MV} {v : V} : RV K H (.tup xs) v ↔ ∃ a vs, v = .ref a ∧ SqT K H a vs ∧ RVs K H xs vs := by
  constructor <;> intro h <;> (unfold RV at *; exact h)
theorem RV.lst {xs : List MV} {v : V} : RV K H (.lst xs) v ↔ ∃ a vs, v = .ref a ∧ H a = some (.lst vs) ∧ RVs K H xs vs := by
  constructor <;> intro h <;> (unfold RV at *; exact h)
theorem RV.dct {ks : List Key} {xs : List MV} {v : V} : RV K H (.dct ks xs) v ↔ ∃ a vs, v = .ref a ∧ H a = some (.dK (ks.zip vs)) ∧ ks.length = xs.length ∧ RVs K H xs vs := by
  constructor <;> intro h <;> (unfold RV at *; exact h)
theorem RV.scr {ns : List Int} {v : V} : RV K H (.scr ns) v ↔ ∃ a, v = .ref a ∧ SqL K H a (ns.map V.int) := by
  constructor <;> intro h <;> (unfold RV at *; exact h)
theorem RV.fnc {x : Str} {v : V} : RV K H (.fnc x) v ↔ ∃ a, v = .ref a ∧ PySem.W.nsIn K mainGlobals x = some (some (.ref a)) := by
  constructor <;> intro h <;> (unfold RV at *; exact h)
theorem RVs.nil {vs : List V} : RVs K H [] vs ↔ vs = [] := by unfold RVs; rfl
theorem RVs.cons {x : MV} {xs : List MV} {vs : List V} : RVs K H (x :: xs) vs ↔ ∃ v r, vs = v :: r ∧ RV K H x v ∧ RVs K H xs r := by
  rw [RVs]
theorem RVs.length : ∀ {xs : List MV} {vs : List V}, RVs K H xs vs → vs.length = xs.length
  | [], vs, h => by rw [RVs.nil] at h; subst h; rfl
  | x :: xs, vs, h => by
    rw [RVs.cons] at h
    obtain ⟨v, r, rfl, _, h⟩ := h
    simp [RVs.length h]
theorem RVs.get : ∀ {xs : List MV} {vs : List V} {i : Nat} {x : MV}, RVs K H xs vs → xs[i]? = some x → ∃ v, vs[i]? = some v ∧ RV K H x v
  | [], _, i, x, _, e => by simp at e
  | y :: xs, vs, 0, x, h, e => by
    rw [RVs.cons] at h
    obtain ⟨v, r, rfl, h1, _⟩ := h
    simp at e; subst e; exact ⟨v, rfl, h1⟩
  | y :: xs, vs, i + 1, x, h, e => by
    rw [RVs.cons] at h
    obtain ⟨v, r, rfl, _, h⟩ := h
    obtain ⟨u, h1, h2⟩ := RVs.get (i := i) (x := x) h (by simpa using e)
    exact ⟨u, by simpa using h1, h2⟩
theorem RVs.append : ∀ {xs ys : List MV} {vs ws : List V}, RVs K H xs vs → RVs K H ys ws → RVs K H (xs ++ ys) (vs ++ ws)
  | [], ys, vs, ws, h, h2 => by rw [RVs.nil] at h; subst h; exact h2
  | x :: xs, ys, vs, ws, h, h2 => by
    rw [RVs.cons] at h
    obtain ⟨v, r, rfl, h1, h⟩ := h
    show RVs K H (x :: (xs ++ ys)) (v :: (r ++ ws))
    rw [RVs.cons]
    exact ⟨v, r ++ ws, rfl, h1, RVs.append h h2⟩
theorem RVs.take : ∀ {xs : List MV} {vs : List V} (n : Nat), RVs K H xs vs → RVs K H (xs.take n) (vs.take n)
  | _, _, 0, _ => by simp [RVs]
  | [], vs, n + 1, h => by rw [RVs.nil] at h; subst h; simp [RVs]
  | x :: xs, vs, n + 1, h => by
    rw [RVs.cons] at h
    obtain ⟨v, r, rfl, h1, h⟩ := h
    show RVs K H (x :: xs.take n) (v :: r.take n)
    rw [RVs.cons]
    exact ⟨v, _, rfl, h1, RVs.take n h⟩
theorem RVs.drop : ∀ {xs : List MV} {vs : List V} (n : Nat), RVs K H xs vs → RVs K H (xs.drop n) (vs.drop n)
  | _, _, 0, h => h
  | [], vs, n + 1, h => by rw [RVs.nil] at h; subst h; simp [RVs]
  | x :: xs, vs, n + 1, h => by
    rw [RVs.cons] at h
    obtain ⟨v, r, rfl, h1, h⟩ := h
    exact RVs.drop n h
theorem RVs.set : ∀ {xs : List MV} {vs : List V} (i : Nat) {x : MV} {v : V}, RVs K H xs vs → RV K H x v → RVs K H (xs.set i x) (vs.set i v)
  | [], vs, i, x, v, h, _ => by rw [RVs.nil] at h; subst h; simp [RVs]
  | y :: xs, vs, 0, x, v, h, h2 => by
    rw [RVs.cons] at h
    obtain ⟨u, r, rfl, h1, h⟩ := h
    show RVs K H (x :: xs) (v :: r)
    rw [RVs.cons]; exact ⟨v, r, rfl, h2, h⟩
  | y :: xs, vs, i + 1, x, v, h, h2 => by
    rw [RVs.cons] at h
    obtain ⟨u, r, rfl, h1, h⟩ := h
    show RVs K H (y :: xs.set i x) (u :: r.set i v)
    rw [RVs.cons]; exact ⟨u, _, rfl, h1, RVs.set i h h2⟩
theorem RVs.ints : ∀ {ns : List Int} {vs : List V}, RVs K H (ns.map MV.int) vs ↔ vs = ns.map V.int
  | [], vs => RVs.nil
  | n :: ns, vs => by
    rw [List.map_cons, RVs.cons]
    constructor
    · rintro ⟨v, r, rfl, h1, h2⟩
      rw [RV.int.mp h1, RVs.ints.mp h2]; rfl
    · rintro rfl
      exact ⟨_, _, rfl, RV.int.mpr rfl, RVs.ints.mpr rfl⟩
end
mutual
def nkI : MV → Option NestedKey
  | .int i => some (.num i)
  | .tup xs => (nkIs xs).map .tup
  | _ => none
def nkIs : List MV → Option (List NestedKey)
  | [] => some []
  | x :: xs => match nkI x, nkIs xs with
    | some k, some ks => some (k :: ks)
    | _, _ => none
end
mutual
def nh : NestedKey → Int
  | .none => reduceHash 0xFCA86420
  | .num i => hashInt i
  | .text _ => 0
  | .tup ks => reduceHash (Builtin.Tuple.tupleHashOf (nhs ks))
def nhs : List NestedKey → List Int
  | [] => []
  | k :: ks => nh k :: nhs ks
end
def nEntry (x : NestedKey × Addr × Value) : DictEntry := ⟨nh x.1, .ref x.2.1, x.2.2⟩
def nDict (p : Addr) (kvs : List (NestedKey × Addr × V)) (h : Heap) : Prop :=
  kvs.length ≤ sizeLine ∧ (p == sysModules) = false ∧ ∃ xs : List (NestedKey × Addr × Value), Paired (fun (a : NestedKey × Addr × V) (b : NestedKey × Addr × Value) => a.1 = b.1 ∧ a.2.1 = b.2.1 ∧ RelV a.2.2 b.2.2) kvs xs ∧
    ∃ o es ep, h.get? p = some o ∧ o.ExactDict ∧ o.data = .dict es ep ∧ es.toList = xs.map nEntry ∧ (xs.map (·.1)).Nodup
def KN (K : PySem.W.Frag) (Hk : Hp) : List MV → List MV → List (NestedKey × Addr × V) → Prop
  | [], [], l => l = []
  | k :: ks, x :: xs, l => ∃ nk a v r, l = (nk, a, v) :: r ∧ nkI k = some nk ∧ nk.depth ≤ 8 ∧ RV K Hk k (.ref a) ∧ RV K Hk x v ∧ KN K Hk ks xs r
  | _, _, _ => False
theorem KN.mono {K : PySem.W.Frag} {H H' : Hp} (e : Ex H H') : ∀ {ks xs : List MV} {l : List (NestedKey × Addr × V)}, KN K H ks xs l → KN K H' ks xs l
  | [], [], _, h => h
  | [], _ :: _, _, h => h.elim
  | _ :: _, [], _, h => h.elim
  | k :: ks, x :: xs, _, h => by
    obtain ⟨nk, a, v, r, h1, h2, h3, h4, h5, h6⟩ := h
    exact ⟨nk, a, v, r, h1, h2, h3, RV.mono e _ _ h4, RV.mono e _ _ h5, KN.mono e h6⟩
def OF (K : PySem.W.Frag) (Hk H : Hp) : MV → V → List Addr → Prop
  | .own xs, v, A => ∃ p vs, v = .ref p ∧ A = [p] ∧ H p = some (.lst vs) ∧ RVs K Hk xs vs
  | .dow ks xs, v, A => ∃ p vs, v = .ref p ∧ A = [p] ∧ H p = some (.dK (ks.zip vs)) ∧ ks.length = xs.length ∧ RVs K Hk xs vs
  | .dot ks xs, v, A => ∃ p l, v = .ref p ∧ A = [p] ∧ H p = some (.ext (nDict p l)) ∧ KN K Hk ks xs l
  | x, v, A => A = [] ∧ RV K Hk x v
def OFs (K : PySem.W.Frag) (Hk H : Hp) : List (Str × MV) → List (Str × V) → List Addr → Prop
  | [], vs, A => vs = [] ∧ A = []
  | (n, x) :: xs, vs, A => ∃ v r B C, vs = (n, v) :: r ∧ A = B ++ C ∧ OF K Hk H x v B ∧ OFs K Hk H xs r C
def OV (K : PySem.W.Frag) (Hk H : Hp) : MV → V → List Addr → Prop
  | .obj C fs, v, A => ∃ p CA dx vfs B, v = .ref p ∧ A = p :: B ∧ PySem.W.nsIn K mainGlobals C = some (some (.ref CA)) ∧ H p = some (.ins CA dx vfs) ∧ OFs K Hk H fs vfs B ∧ (p :: B).Nodup
  | x, v, A => OF K Hk H x v A
def MV.per : MV → Bool
  | .own _ => false
  | .obj _ _ => false
  | .dow _ _ => false
  | .dot _ _ => false
  | _ => true
theorem OF.per {K : PySem.W.Frag} {Hk H : Hp} {x : MV} {v : V} {A : List Addr} (h : x.per = true) : OF K Hk H x v A ↔ A = [] ∧ RV K Hk x v := by
  cases x <;> first | (simp [MV.per] at h; done) | (unfold OF; rfl)
theorem OV.per {K : PySem.W.Frag} {Hk H : Hp} {x : MV} {v : V} {A : List Addr} (h : x.per = true) : OV K Hk H x v A ↔ A = [] ∧ RV K Hk x v := by
  cases x <;> first | (simp [MV.per] at h; done) | (unfold OV OF; rfl)
theorem OV.own {K : PySem.W.Frag} {Hk H : Hp} {xs : List MV} {v : V} {A : List Addr} : OV K Hk H (.own xs) v A ↔ ∃ p vs, v = .ref p ∧ A = [p] ∧ H p = some (.lst vs) ∧ RVs K Hk xs vs := by
  unfold OV OF; rfl
theorem RV.isper {K : PySem.W.Frag} {H : Hp} {x : MV} {v : V} (h : RV K H x v) : x.per = true := by
  cases x <;> first | rfl | (unfold RV at h; exact h.elim)
theorem RV.ov {K : PySem.W.Frag} {Hk H : Hp} {x : MV} {v : V} (h : RV K Hk x v) : OV K Hk H x v [] := (OV.per h.isper).mpr ⟨rfl, h⟩
theorem OF.move {K : PySem.W.Frag} {Hk Hk' H H' : Hp} {x : MV} {v : V} {A : List Addr} (h : OF K Hk H x v A) (e : Ex Hk Hk') (k : ∀ a ∈ A, ∀ o, H a = some o → H' a = some o) : OF K Hk' H' x v A := by
  cases x with
  | own xs =>
    unfold OF at h ⊢
    obtain ⟨p, vs, e1, e2, e3, e4⟩ := h
    exact ⟨p, vs, e1, e2, k p (by rw [e2]; simp) _ e3, e4.mono e⟩
  | dow ks xs =>
    unfold OF at h ⊢
    obtain ⟨p, vs, e1, e2, e3, e5, e4⟩ := h
    exact ⟨p, vs, e1, e2, k p (by rw [e2]; simp) _ e3, e5, e4.mono e⟩
  | dot ks xs =>
    unfold OF at h ⊢
    obtain ⟨p, l, e1, e2, e3, e4⟩ := h
    exact ⟨p, l, e1, e2, k p (by rw [e2]; simp) _ e3, e4.mono e⟩
  | obj C fs => exact (show False by unfold OF at h; unfold RV at h; exact h.2).elim
  | _ =>
    unfold OF at h ⊢
    exact ⟨h.1, RV.mono e _ _ h.2⟩
theorem OFs.move {K : PySem.W.Frag} {Hk Hk' H H' : Hp} : ∀ {fs : List (Str × MV)} {vs : List (Str × V)} {A : List Addr}, OFs K Hk H fs vs A → Ex Hk Hk' → (∀ a ∈ A, ∀ o, H a = some o → H' a = some o) → OFs K Hk' H' fs vs A
  | [], _, _, h, _, _ => h
  | (n, x) :: fs, vs, A, h, e, k => by
    obtain ⟨v, r, B, C, e1, e2, h1, h2⟩ := h
    refine ⟨v, r, B, C, e1, e2, h1.move e fun a ha => k a (by rw [e2]; exact List.mem_append_left _ ha), OFs.move h2 e fun a ha => k a (by rw [e2]; exact List.mem_append_right _ ha)⟩
theorem OV.move {K : PySem.W.Frag} {Hk Hk' H H' : Hp} {x : MV} {v : V} {A : List Addr} (h : OV K Hk H x v A) (e : Ex Hk Hk') (k : ∀ a ∈ A, ∀ o, H a = some o → H' a = some o) : OV K Hk' H' x v A := by
  cases x with
  | obj C fs =>
    unfold OV at h ⊢
    obtain ⟨p, CA, dx, vfs, B, e1, e2, e0, e3, e4, e5⟩ := h
    exact ⟨p, CA, dx, vfs, B, e1, e2, e0, k p (by rw [e2]; simp) _ e3, OFs.move e4 e fun a ha => k a (by rw [e2]; exact List.mem_cons_of_mem _ ha), e5⟩
  | _ => (unfold OV at h ⊢; exact OF.move h e k)
theorem OF.there {K : PySem.W.Frag} {Hk H : Hp} {x : MV} {v : V} {A : List Addr} (h : OF K Hk H x v A) : ∀ a ∈ A, ∃ o, H a = some o := by
  cases x with
  | own xs =>
    unfold OF at h
    obtain ⟨p, vs, e1, e2, e3, e4⟩ := h
    intro a ha
    rw [e2] at ha
    simp at ha
    subst ha
    exact ⟨_, e3⟩
  | dow ks xs =>
    unfold OF at h
    obtain ⟨p, vs, e1, e2, e3, e5, e4⟩ := h
    intro a ha
    rw [e2] at ha
    simp at ha
    subst ha
    exact ⟨_, e3⟩
  | dot ks xs =>
    unfold OF at h
    obtain ⟨p, l, e1, e2, e3, e4⟩ := h
    intro a ha
    rw [e2] at ha
    simp at ha
    subst ha
    exact ⟨_, e3⟩
  | _ =>
    unfold OF at h
    intro a ha
    rw [h.1] at ha
    cases ha
theorem OFs.there {K : PySem.W.Frag} {Hk H : Hp} : ∀ {fs : List (Str × MV)} {vs : List (Str × V)} {A : List Addr}, OFs K Hk H fs vs A → ∀ a ∈ A, ∃ o, H a = some o
  | [], _, _, h, a, ha => by rw [h.2] at ha; cases ha
  | (n, x) :: fs, vs, A, h, a, ha => by
    obtain ⟨v, r, B, C, e1, e2, h1, h2⟩ := h
    rw [e2] at ha
    rcases List.mem_append.mp ha with ha | ha
    · exact h1.there a ha
    · exact OFs.there h2 a ha
theorem OV.there {K : PySem.W.Frag} {Hk H : Hp} {x : MV} {v : V} {A : List Addr} (h : OV K Hk H x v A) : ∀ a ∈ A, ∃ o, H a = some o := by
  cases x with
  | obj C fs =>
    unfold OV at h
    obtain ⟨p, CA, dx, vfs, B, e1, e2, e0, e3, e4, e5⟩ := h
    intro a ha
    rw [e2] at ha
    rcases List.mem_cons.mp ha with rfl | ha
    · exact ⟨_, e3⟩
    · exact OFs.there e4 a ha
  | _ => (unfold OV at h; exact OF.there h)
def put (ow : Nat → List Addr) (i : Nat) (A : List Addr) : Nat → List Addr := fun j => if j = i then A else ow j
theorem put_same {ow : Nat → List Addr} {i : Nat} {A : List Addr} : put ow i A i = A := if_pos rfl
theorem put_ne {ow : Nat → List Addr} {i j : Nat} {A : List Addr} (h : j ≠ i) : put ow i A j = ow j := if_neg h
structure SL (K : PySem.W.Frag) (F Hk H : Hp) (ow : Nat → List Addr) (σ : St) (ρ : Env) : Prop where
  s : ∀ (i : Nat) x, ρ[i]? = some (some x) → ∃ v, σ[i]? = some (some v) ∧ OV K Hk H x v (ow i)
  f : ∀ i a, a ∈ ow i → Hk a = none ∧ F a = none ∧ ∃ o, H a = some o
  w : ∀ i, ow i ≠ [] → i < ρ.length
  d : ∀ i j a, i ≠ j → a ∈ ow i → a ∉ ow j
structure RS (K : PySem.W.Frag) (F Hk H : Hp) (bp : List (Nat × Addr)) (σ : St) (ρ : Env) : Prop where
  len : σ.length = ρ.length
  ex : Ex Hk H
  fr : Ex F H
  frk : ∀ a o, F a = some o → Hk a = none
  ow : ∃ ow, SL K F Hk H ow σ ρ
  bor : ∀ q ∈ bp, σ[q.1]? = some (some (.ref q.2))
theorem set_get {α : Type} {l : List α} {i j : Nat} {x y : α} (h : (l.set i x)[j]? = some y) : (j = i ∧ y = x) ∨ (j ≠ i ∧ l[j]? = some y) := by
  by_cases e : i = j
  · subst e
    rw [List.getElem?_set] at h
    simp at h
    exact .inl ⟨rfl, h.2.symm⟩
  · rw [List.getElem?_set_ne e] at h
    exact .inr ⟨fun q => e q.symm, h⟩
theorem app_get {α : Type} {l : List α} {j : Nat} {x y : α} (h : (l ++ [x])[j]? = some y) : (j = l.length ∧ y = x) ∨ (j < l.length ∧ l[j]? = some y) := by
  by_cases e : j < l.length
  · rw [List.getElem?_append_left e] at h; exact .inr ⟨e, h⟩
  · rw [List.getElem?_append_right (Nat.le_of_not_lt e)] at h
    have := (List.getElem?_eq_some_iff.mp h).1
    simp at this
    have ej : j = l.length := by omega
    subst ej
    simp at h
    exact .inl ⟨rfl, h.symm⟩
theorem lt_get {α : Type} {l : List α} {j : Nat} {y : α} (h : l[j]? = some y) : j < l.length := (List.getElem?_eq_some_iff.mp h).1
section
variable {K : PySem.W.Frag} {F Hk Hk' H H' : Hp} {bp : List (Nat × Addr)} {σ : St} {ρ : Env} {ow : Nat → List Addr}
theorem SL.out (S : SL K F Hk H ow σ ρ) {i : Nat} (h : ρ.length ≤ i) : ow i = [] := by
  cases e : ow i with
  | nil => rfl
  | cons a r => exact absurd (S.w i (by rw [e]; simp)) (by omega)
theorem SL.fresh (S : SL K F Hk H ow σ ρ) {p : Addr} (h : H p = none) (i : Nat) : p ∉ ow i := fun m => by
  obtain ⟨_, _, o, e⟩ := S.f i p m
  rw [h] at e; cases e
theorem SL.step (S : SL K F Hk H ow σ ρ) (e : Ex Hk Hk') (k : ∀ i, ∀ a ∈ ow i, H' a = H a ∧ Hk' a = none) : SL K F Hk' H' ow σ ρ := by
  refine ⟨fun i x h => ?_, fun i a h => ?_, S.w, S.d⟩
  · obtain ⟨v, ev, o⟩ := S.s i x h
    exact ⟨v, ev, o.move e fun a ha u hu => by rw [(k i a ha).1]; exact hu⟩
  · obtain ⟨f1, f2, o, f3⟩ := S.f i a h
    exact ⟨(k i a h).2, f2, o, by rw [(k i a h).1]; exact f3⟩
theorem SL.set (S : SL K F Hk H ow σ ρ) (hl : σ.length = ρ.length) {i : Nat} {x : MV} {v : V} (hi : i < ρ.length) (r : RV K Hk x v) : SL K F Hk H (put ow i []) (σ.set i (some v)) (ρ.set i (some x)) := by
  refine ⟨fun j y h => ?_, fun j a h => ?_, fun j h => ?_, fun j k a hjk h => ?_⟩
  · rcases set_get h with ⟨rfl, e⟩ | ⟨ne, e⟩
    · cases e
      refine ⟨v, by rw [List.getElem?_set_self (by rw [hl]; exact hi)], ?_⟩
      rw [put_same]; exact r.ov
    · obtain ⟨u, e1, e2⟩ := S.s j y e
      exact ⟨u, by rw [List.getElem?_set_ne (Ne.symm ne)]; exact e1, by rw [put_ne ne]; exact e2⟩
  · by_cases e : j = i
    · rw [e, put_same] at h; cases h
    · rw [put_ne e] at h; exact S.f j a h
  · by_cases e : j = i
    · rw [e, put_same] at h; exact (h rfl).elim
    · rw [put_ne e] at h; rw [List.length_set]; exact S.w j h
  · by_cases e : j = i
    · rw [e, put_same] at h; cases h
    · rw [put_ne e] at h
      by_cases e2 : k = i
      · rw [e2, put_same]; simp
      · rw [put_ne e2]; exact S.d j k a hjk h
theorem SL.push (S : SL K F Hk H ow σ ρ) (hl : σ.length = ρ.length) {x : MV} {v : V} {A : List Addr} (o : OV K Hk H x v A) (hf : ∀ a ∈ A, Hk a = none ∧ F a = none) (hd : ∀ i, ∀ a ∈ A, a ∉ ow i) :
    SL K F Hk H (put ow ρ.length A) (σ ++ [some v]) (ρ ++ [some x]) := by
  refine ⟨fun j y h => ?_, fun j a h => ?_, fun j h => ?_, fun j k a hjk h => ?_⟩
  · rcases app_get h with ⟨rfl, e⟩ | ⟨lt, e⟩
    · cases e
      refine ⟨v, by rw [← hl]; simp, ?_⟩
      rw [put_same]; exact o
    · obtain ⟨u, e1, e2⟩ := S.s j y e
      exact ⟨u, by rw [List.getElem?_append_left (by rw [hl]; exact lt)]; exact e1, by rw [put_ne (Nat.ne_of_lt lt)]; exact e2⟩
  · by_cases e : j = ρ.length
    · rw [e, put_same] at h; exact ⟨(hf a h).1, (hf a h).2, o.there a h⟩
    · rw [put_ne e] at h; exact S.f j a h
  · by_cases e : j = ρ.length
    · rw [e]; simp
    · rw [put_ne e] at h; have := S.w j h; simp; omega
  · by_cases e : j = ρ.length
    · rw [e, put_same] at h
      rw [put_ne (fun z => hjk (e.trans z.symm))]
      exact hd k a h
    · rw [put_ne e] at h
      by_cases e2 : k = ρ.length
      · rw [e2, put_same]; exact fun z => hd j a z h
      · rw [put_ne e2]; exact S.d j k a hjk h
theorem SL.take (S : SL K F Hk H ow (σ ++ [some v]) (ρ ++ [some x])) (hl : σ.length = ρ.length) {i : Nat} (hi : i < ρ.length) : SL K F Hk H (put (put ow i (ow ρ.length)) ρ.length []) (σ.set i (some v)) (ρ.set i (some x)) := by
  have ne : i ≠ ρ.length := Nat.ne_of_lt hi
  obtain ⟨u, hu, ou⟩ := S.s ρ.length x (by simp)
  have ev : u = v := by rw [← hl] at hu; simpa using hu.symm
  subst ev
  have lt : ∀ j a, a ∈ put (put ow i (ow ρ.length)) ρ.length [] j → (j = i ∧ a ∈ ow ρ.length) ∨ (j ≠ i ∧ j < ρ.length ∧ a ∈ ow j) := fun j a h => by
    by_cases e : j = ρ.length
    · rw [e, put_same] at h; cases h
    · rw [put_ne e] at h
      by_cases e2 : j = i
      · rw [e2, put_same] at h; exact .inl ⟨e2, h⟩
      · rw [put_ne e2] at h
        have := S.w j (by intro z; rw [z] at h; cases h)
        simp at this
        exact .inr ⟨e2, by omega, h⟩
  refine ⟨fun j y h => ?_, fun j a h => ?_, fun j h => ?_, fun j k a hjk h => ?_⟩
  · rcases set_get h with ⟨rfl, e⟩ | ⟨ne2, e⟩
    · cases e
      refine ⟨u, by rw [List.getElem?_set_self (by rw [hl]; exact hi)], ?_⟩
      rw [put_ne ne, put_same]; exact ou
    · have lj := lt_get e
      obtain ⟨w, e1, e2⟩ := S.s j y (by rw [List.getElem?_append_left lj]; exact e)
      rw [List.getElem?_append_left (by rw [hl]; exact lj)] at e1
      exact ⟨w, by rw [List.getElem?_set_ne (Ne.symm ne2)]; exact e1, by rw [put_ne (Nat.ne_of_lt lj), put_ne ne2]; exact e2⟩
  · rcases lt j a h with ⟨_, m⟩ | ⟨_, _, m⟩
    · exact S.f _ a m
    · exact S.f _ a m
  · rw [List.length_set]
    cases e : put (put ow i (ow ρ.length)) ρ.length [] j with
    | nil => exact (h e).elim
    | cons a r =>
      rcases lt j a (by rw [e]; simp) with ⟨e, _⟩ | ⟨_, l, _⟩
      · rw [e]; exact hi
      · exact l
  · intro hk
    rcases lt j a h with ⟨e1, m⟩ | ⟨e1, l1, m⟩ <;> rcases lt k a hk with ⟨e2, m2⟩ | ⟨e2, l2, m2⟩
    · exact hjk (e1.trans e2.symm)
    · exact S.d ρ.length k a (by omega) m m2
    · exact S.d j ρ.length a (by omega) m m2
    · exact S.d j k a hjk m m2
theorem SL.drop (S : SL K F Hk H ow (σ ++ [y]) (ρ ++ [x])) (hl : σ.length = ρ.length) : SL K F Hk H (put ow ρ.length []) σ ρ := by
  refine ⟨fun j y h => ?_, fun j a h => ?_, fun j h => ?_, fun j k a hjk h => ?_⟩
  · have lj := lt_get h
    obtain ⟨w, e1, e2⟩ := S.s j y (by rw [List.getElem?_append_left lj]; exact h)
    rw [List.getElem?_append_left (by rw [hl]; exact lj)] at e1
    exact ⟨w, e1, by rw [put_ne (Nat.ne_of_lt lj)]; exact e2⟩
  · by_cases e : j = ρ.length
    · rw [e, put_same] at h; cases h
    · rw [put_ne e] at h; exact S.f j a h
  · by_cases e : j = ρ.length
    · rw [e, put_same] at h; exact (h rfl).elim
    · rw [put_ne e] at h; have := S.w j h; simp at this; omega
  · by_cases e : j = ρ.length
    · rw [e, put_same] at h; cases h
    · rw [put_ne e] at h
      by_cases e2 : k = ρ.length
      · rw [e2, put_same]; simp
      · rw [put_ne e2]; exact S.d j k a hjk h
theorem RS.get (S : RS K F Hk H bp σ ρ) {i : Nat} {x : MV} (h : ρ[i]? = some (some x)) (hp : x.per = true) : ∃ v, σ[i]? = some (some v) ∧ RV K Hk x v := by
  obtain ⟨ow, s⟩ := S.ow
  obtain ⟨v, e, o⟩ := s.s i x h
  exact ⟨v, e, ((OV.per hp).mp o).2⟩
theorem RS.getOwn (S : RS K F Hk H bp σ ρ) {i : Nat} {xs : List MV} (h : ρ[i]? = some (some (.own xs))) : ∃ p vs, σ[i]? = some (some (.ref p)) ∧ H p = some (.lst vs) ∧ RVs K Hk xs vs ∧ Hk p = none ∧ F p = none := by
  obtain ⟨ow, s⟩ := S.ow
  obtain ⟨v, e, o⟩ := s.s i _ h
  obtain ⟨p, vs, e1, e2, e3, e4⟩ := OV.own.mp o
  have m : p ∈ ow i := by rw [e2]; simp
  exact ⟨p, vs, by rw [e, e1], e3, e4, (s.f i p m).1, (s.f i p m).2.1⟩
theorem RS.step (S : RS K F Hk H bp σ ρ) (e : Ex Hk Hk') (e' : Ex Hk' H') (k : ∀ a o, Hk a = none → H a = some o → H' a = some o ∧ Hk' a = none) : RS K F Hk' H' bp σ ρ := by
  obtain ⟨ow, s⟩ := S.ow
  refine ⟨S.len, e', fun a o h => (k a o (S.frk a o h) (S.fr a o h)).1, fun a o h => (k a o (S.frk a o h) (S.fr a o h)).2, ⟨ow, s.step e fun i a h => ?_⟩, S.bor⟩
  obtain ⟨f1, _, o, f2⟩ := s.f i a h
  exact ⟨((k a o f1 f2).1).trans f2.symm, (k a o f1 f2).2⟩
theorem RS.new (S : RS K F Hk H bp σ ρ) {p : Addr} {o : HO} (h : H p = none) : RS K F (upd Hk p o) (upd H p o) bp σ ρ :=
  S.step (Ex.new (S.ex.back h)) (S.ex.both h) fun a u hk ha => by
    have ne := ne_of_none ha h
    rw [upd_ne ne, upd_ne ne]
    exact ⟨ha, hk⟩
theorem RS.more (S : RS K F Hk H bp σ ρ) {p : Addr} {o : HO} (h : H p = none) : RS K F Hk (upd H p o) bp σ ρ :=
  S.step (Ex.refl _) (S.ex.mut (S.ex.back h)) fun a u hk ha => by
    rw [upd_ne (ne_of_none ha h)]
    exact ⟨ha, hk⟩
theorem RS.set (S : RS K F Hk H bp σ ρ) {i : Nat} {x : MV} {v : V} (hi : i < ρ.length) (r : RV K Hk x v) (hb : ∀ q ∈ bp, q.1 ≠ i) : RS K F Hk H bp (σ.set i (some v)) (ρ.set i (some x)) := by
  obtain ⟨ow, s⟩ := S.ow
  exact ⟨by simp [S.len], S.ex, S.fr, S.frk, ⟨_, s.set S.len hi r⟩, fun q hq => by rw [List.getElem?_set_ne (Ne.symm (hb q hq))]; exact S.bor q hq⟩
theorem RS.bor_app (S : RS K F Hk H bp σ ρ) (y : Option V) : ∀ q ∈ bp, (σ ++ [y])[q.1]? = some (some (.ref q.2)) := fun q hq => by
  have q1 := S.bor q hq
  rw [List.getElem?_append_left (lt_get q1)]; exact q1
theorem RS.push (S : RS K F Hk H bp σ ρ) {x : MV} {v : V} (r : RV K Hk x v) : RS K F Hk H bp (σ ++ [some v]) (ρ ++ [some x]) := by
  obtain ⟨ow, s⟩ := S.ow
  exact ⟨by simp [S.len], S.ex, S.fr, S.frk, ⟨_, s.push S.len r.ov (fun _ h => nomatch h) (fun _ _ h => nomatch h)⟩, S.bor_app _⟩
theorem RS.pushOwn (S : RS K F Hk H bp σ ρ) {p : Addr} {xs : List MV} {vs : List V} (h : H p = none) (r : RVs K Hk xs vs) : RS K F Hk (upd H p (.lst vs)) bp (σ ++ [some (.ref p)]) (ρ ++ [some (.own xs)]) := by
  obtain ⟨ow, s⟩ := S.ow
  have S' := S.more (o := .lst vs) h
  have s' : SL K F Hk (upd H p (.lst vs)) ow σ ρ := s.step (Ex.refl _) fun i a ha => by
    obtain ⟨f1, f2, o, f3⟩ := s.f i a ha
    exact ⟨upd_ne (ne_of_none f3 h), f1⟩
  have fp : F p = none := by
    cases e : F p with
    | none => rfl
    | some o => have := S.fr p o e; rw [h] at this; cases this
  refine ⟨by simp [S.len], S'.ex, S'.fr, S'.frk, ⟨_, s'.push S.len (A := [p]) (OV.own.mpr ⟨p, vs, rfl, rfl, upd_same, r⟩) (fun a ha => ?_) (fun i a ha => ?_)⟩, S.bor_app _⟩
  · simp at ha; subst ha; exact ⟨S.ex.back h, fp⟩
  · simp at ha; subst ha; exact s.fresh h i
theorem RS.take {v : V} {x : MV} (S : RS K F Hk H bp (σ ++ [some v]) (ρ ++ [some x])) {i : Nat} (hi : i < ρ.length) (hb : ∀ q ∈ bp, q.1 ≠ i ∧ q.1 < ρ.length) : RS K F Hk H bp (σ.set i (some v)) (ρ.set i (some x)) := by
  obtain ⟨ow, s⟩ := S.ow
  have hl : σ.length = ρ.length := by have := S.len; simpa using this
  refine ⟨by simp [hl], S.ex, S.fr, S.frk, ⟨_, s.take hl hi⟩, fun q hq => ?_⟩
  have q1 := S.bor q hq
  rw [List.getElem?_append_left (by rw [hl]; exact (hb q hq).2)] at q1
  rw [List.getElem?_set_ne (Ne.symm (hb q hq).1)]; exact q1
theorem RS.drop {y : Option V} {x : Option MV} (S : RS K F Hk H bp (σ ++ [y]) (ρ ++ [x])) (hb : ∀ q ∈ bp, q.1 < ρ.length) : RS K F Hk H bp σ ρ := by
  obtain ⟨ow, s⟩ := S.ow
  have hl : σ.length = ρ.length := by have := S.len; simpa using this
  refine ⟨hl, S.ex, S.fr, S.frk, ⟨_, s.drop hl⟩, fun q hq => ?_⟩
  have q1 := S.bor q hq
  rw [List.getElem?_append_left (by rw [hl]; exact hb q hq)] at q1
  exact q1
theorem RS.freeze (S : RS K F Hk H bp σ ρ) {i : Nat} {xs : List MV} (h : ρ[i]? = some (some (.own xs))) :
    ∃ p vs, σ[i]? = some (some (.ref p)) ∧ Ex Hk (upd Hk p (.lst vs)) ∧ RV K (upd Hk p (.lst vs)) (.lst xs) (.ref p) ∧ RS K F (upd Hk p (.lst vs)) H bp σ (ρ.set i (some (.lst xs))) := by
  obtain ⟨ow, s⟩ := S.ow
  obtain ⟨v, ev, o⟩ := s.s i _ h
  obtain ⟨p, vs, e1, e2, e3, e4⟩ := OV.own.mp o
  have m : p ∈ ow i := by rw [e2]; simp
  obtain ⟨f1, f2, _⟩ := s.f i p m
  have ex : Ex Hk (upd Hk p (.lst vs)) := Ex.new f1
  have rv : RV K (upd Hk p (.lst vs)) (.lst xs) (.ref p) := RV.lst.mpr ⟨p, vs, rfl, upd_same, e4.mono ex⟩
  have li := lt_get h
  refine ⟨p, vs, by rw [ev, e1], ex, rv, by simp [S.len], S.ex.updL e3, S.fr, fun a u ha => ?_, ⟨put ow i [], ?_⟩, S.bor⟩
  · rw [upd_ne (ne_of_none ha f2)]; exact S.frk a u ha
  · refine ⟨fun j y hj => ?_, fun j a hj => ?_, fun j hj => ?_, fun j k a hjk hj => ?_⟩
    · rcases set_get hj with ⟨rfl, e⟩ | ⟨ne, e⟩
      · cases e
        exact ⟨v, ev, by rw [put_same, e1]; exact rv.ov⟩
      · obtain ⟨u, u1, u2⟩ := s.s j y e
        exact ⟨u, u1, by rw [put_ne ne]; exact u2.move ex fun _ _ _ z => z⟩
    · by_cases e : j = i
      · rw [e, put_same] at hj; cases hj
      · rw [put_ne e] at hj
        obtain ⟨g1, g2⟩ := s.f j a hj
        refine ⟨?_, g2⟩
        rw [upd_ne (fun z => s.d j i a e hj (by rw [z]; exact m))]; exact g1
    · by_cases e : j = i
      · rw [e, put_same] at hj; exact (hj rfl).elim
      · rw [put_ne e] at hj; rw [List.length_set]; exact s.w j hj
    · by_cases e : j = i
      · rw [e, put_same] at hj; cases hj
      · rw [put_ne e] at hj
        by_cases e2 : k = i
        · rw [e2, put_same]; simp
        · rw [put_ne e2]; exact s.d j k a hjk hj
theorem RS.change (S : RS K F Hk H bp σ ρ) {i : Nat} {xs ys : List MV} (h : ρ[i]? = some (some (.own xs))) :
    ∃ p vs, σ[i]? = some (some (.ref p)) ∧ H p = some (.lst vs) ∧ RVs K Hk xs vs ∧ ∀ ws, RVs K Hk ys ws → RS K F Hk (upd H p (.lst ws)) bp σ (ρ.set i (some (.own ys))) := by
  obtain ⟨ow, s⟩ := S.ow
  obtain ⟨v, ev, o⟩ := s.s i _ h
  obtain ⟨p, vs, e1, e2, e3, e4⟩ := OV.own.mp o
  have m : p ∈ ow i := by rw [e2]; simp
  obtain ⟨f1, f2, _⟩ := s.f i p m
  refine ⟨p, vs, by rw [ev, e1], e3, e4, fun ws r => ⟨by simp [S.len], S.ex.mut f1, S.fr.mut f2, S.frk, ⟨ow, ?_⟩, S.bor⟩⟩
  refine ⟨fun j y hj => ?_, fun j a hj => ?_, fun j hj => by rw [List.length_set]; exact s.w j hj, s.d⟩
  · rcases set_get hj with ⟨rfl, e⟩ | ⟨ne, e⟩
    · cases e
      exact ⟨v, ev, OV.own.mpr ⟨p, ws, e1, e2, upd_same, r⟩⟩
    · obtain ⟨u, u1, u2⟩ := s.s j y e
      exact ⟨u, u1, u2.move (Ex.refl _) fun a ha o ho => by rw [upd_ne (fun z => s.d j i a ne ha (by rw [z]; exact m))]; exact ho⟩
  · obtain ⟨g1, g2, o, g3⟩ := s.f j a hj
    by_cases e : a = p
    · subst e; exact ⟨g1, g2, _, upd_same⟩
    · exact ⟨g1, g2, o, by rw [upd_ne e]; exact g3⟩
end
end Tm
set_option Elab.async false
set_option linter.all false
set_option maxRecDepth 100000
set_option maxHeartbeats 2000000
namespace Tm
open PySem L2
open Evl (Ex ex_rd ex_l ex_t)
structure Ct where
  K : PySem.W.Frag
  mg : Str → Option Value
  W : WX
  bs : List Nat
  J : Hp → List (Nat × Addr) → Prop
  Jm : ∀ F F1 bp, Ex F F1 → J F bp → J F1 bp
def XFs (K : PySem.W.Frag) (H : Hp) : List (Str × MV) → List (Str × V) → Prop
  | [], vs => vs = []
  | (n, x) :: xs, vs => ∃ v r, vs = (n, v) :: r ∧ RV K H x v ∧ XFs K H xs r
def ExR (K : PySem.W.Frag) (mg : Str → Option Value) (H : Hp) (e : MX) (cls : Value) (d : Option Addr) : Prop :=
  ∃ C, mg e.cls = some (.ref C) ∧ cls = .ref C ∧ ((e.fs = [] ∧ d = none) ∨ ∃ dx vfs, d = some dx ∧ H dx = some (.xd vfs) ∧ XFs K H e.fs vfs)
theorem XFs.mono {K : PySem.W.Frag} {H H' : Hp} (e : Ex H H') : ∀ {xs : List (Str × MV)} {vs : List (Str × V)}, XFs K H xs vs → XFs K H' xs vs
  | [], _, h => h
  | (n, x) :: xs, vs, h => by
    obtain ⟨v, r, e1, e2, e3⟩ := h
    exact ⟨v, r, e1, RV.mono e _ _ e2, XFs.mono e e3⟩
theorem ExR.mono {K : PySem.W.Frag} {mg : Str → Option Value} {H H' : Hp} {e : MX} {cls : Value} {d : Option Addr} (x : Ex H H') (h : ExR K mg H e cls d) : ExR K mg H' e cls d := by
  obtain ⟨C, h1, h2, h3⟩ := h
  refine ⟨C, h1, h2, ?_⟩
  rcases h3 with h3 | ⟨dx, vfs, a, b, c⟩
  · exact .inl h3
  · exact .inr ⟨dx, vfs, a, x _ _ b, c.mono x⟩
abbrev ME := Env → Res (MV × Env)
abbrev MT := Env → Res (Bool × Env)
abbrev MA := Env → Res (List MV × Env)
abbrev MS := Env → Res (Fl × Env)
def Wish (c : Ct) (F Hk : Hp) (bp : List (Nat × Addr)) (σ : St) (e : MX) (ρ : Env) : Prop :=
  ∀ Hk' H' cls d, Ex Hk Hk' → RS c.K F Hk' H' bp σ ρ → ExR c.K c.mg Hk' e cls d → c.W cls d σ H'
def okE (c : Ct) (F Hk : Hp) (bp : List (Nat × Addr)) (σ : St) (Q : VK) : Res (MV × Env) → Prop
  | .ok (x, ρ') => ∀ Hk' H' v, Ex Hk Hk' → RS c.K F Hk' H' bp σ ρ' → RV c.K Hk' x v → Q v H'
  | .exc e ρ' => Wish c F Hk bp σ e ρ'
  | .stuck => False
def okO (c : Ct) (F Hk : Hp) (bp : List (Nat × Addr)) (σ : St) (Q : VK) : Res (MV × Env) → Prop
  | .ok (x, ρ') => ∀ Hk' H' v, Ex Hk Hk' → RS c.K F Hk' H' bp (σ ++ [some v]) (ρ' ++ [some x]) → Q v H'
  | .exc e ρ' => Wish c F Hk bp σ e ρ'
  | .stuck => False
def okT (c : Ct) (F Hk : Hp) (bp : List (Nat × Addr)) (σ : St) (Q : Bool → Hp → Prop) : Res (Bool × Env) → Prop
  | .ok (x, ρ') => ∀ Hk' H', Ex Hk Hk' → RS c.K F Hk' H' bp σ ρ' → Q x H'
  | .exc e ρ' => Wish c F Hk bp σ e ρ'
  | .stuck => False
def okA (c : Ct) (F Hk : Hp) (bp : List (Nat × Addr)) (σ : St) (Q : List V → Hp → Prop) : Res (List MV × Env) → Prop
  | .ok (xs, ρ') => ∀ Hk' H' vs, Ex Hk Hk' → RS c.K F Hk' H' bp σ ρ' → RVs c.K Hk' xs vs → Q vs H'
  | .exc e ρ' => Wish c F Hk bp σ e ρ'
  | .stuck => False
def okS (c : Ct) (F Hk : Hp) (bp : List (Nat × Addr)) (D : Ends) : Res (Fl × Env) → Prop
  | .ok (.nx, ρ') => ∀ Hk' H' σ', Ex Hk Hk' → RS c.K F Hk' H' bp σ' ρ' → D.nx σ' H'
  | .ok (.br, ρ') => ∀ Hk' H' σ', Ex Hk Hk' → RS c.K F Hk' H' bp σ' ρ' → D.bk σ' H'
  | .ok (.ct, ρ') => ∀ Hk' H' σ', Ex Hk Hk' → RS c.K F Hk' H' bp σ' ρ' → D.ct σ' H'
  | .ok (.rt x, ρ') => ∀ Hk' H' σ' v, Ex Hk Hk' → (∀ q ∈ bp, q.1 < σ'.length) → RS c.K F Hk' H' bp (σ' ++ [some v]) (ρ' ++ [some x]) → D.rt v H'
  | .exc e ρ' => ∀ Hk' H' σ' cls d, Ex Hk Hk' → RS c.K F Hk' H' bp σ' ρ' → ExR c.K c.mg Hk' e cls d → c.W cls d σ' H'
  | .stuck => False
def At (c : Ct) (F Hk H : Hp) (bp : List (Nat × Addr)) (σ : St) (ρ : Env) : Prop := RS c.K F Hk H bp σ ρ ∧ bp.map (·.1) = c.bs ∧ c.J F bp
def rdE (c : Ct) (m : ME) : TE := fun σ H Q => ∃ F Hk bp ρ, At c F Hk H bp σ ρ ∧ okE c F Hk bp σ Q (m ρ)
def rdO (c : Ct) (m : ME) : TE := fun σ H Q => ∃ F Hk bp ρ, At c F Hk H bp σ ρ ∧ okO c F Hk bp σ Q (m ρ)
def rdT (c : Ct) (m : MT) : TT := fun σ H Q => ∃ F Hk bp ρ, At c F Hk H bp σ ρ ∧ okT c F Hk bp σ Q (m ρ)
def rdA (c : Ct) (m : MA) : TA := fun σ H Q => ∃ F Hk bp ρ, At c F Hk H bp σ ρ ∧ okA c F Hk bp σ Q (m ρ)
def rdS (c : Ct) (m : MS) : TS := fun D σ H => ∃ F Hk bp ρ, At c F Hk H bp σ ρ ∧ okS c F Hk bp D (m ρ)
section
variable {c : Ct} {F Hk Hk' H H' : Hp} {bp : List (Nat × Addr)} {σ : St} {ρ : Env}
theorem Wish.mono {e : MX} (x : Ex Hk Hk') (h : Wish c F Hk bp σ e ρ) : Wish c F Hk' bp σ e ρ := fun Hk2 H2 cls d x2 => h Hk2 H2 cls d (x.trans x2)
theorem okE.mono {Q : VK} {r : Res (MV × Env)} (x : Ex Hk Hk') (h : okE c F Hk bp σ Q r) : okE c F Hk' bp σ Q r := by
  cases r with
  | ok a => exact fun Hk2 H2 v x2 => h Hk2 H2 v (x.trans x2)
  | exc e ρ => exact Wish.mono x h
  | stuck => exact h
theorem okO.mono {Q : VK} {r : Res (MV × Env)} (x : Ex Hk Hk') (h : okO c F Hk bp σ Q r) : okO c F Hk' bp σ Q r := by
  cases r with
  | ok a => exact fun Hk2 H2 v x2 => h Hk2 H2 v (x.trans x2)
  | exc e ρ => exact Wish.mono x h
  | stuck => exact h
theorem okT.mono {Q : Bool → Hp → Prop} {r : Res (Bool × Env)} (x : Ex Hk Hk') (h : okT c F Hk bp σ Q r) : okT c F Hk' bp σ Q r := by
  cases r with
  | ok a => exact fun Hk2 H2 x2 => h Hk2 H2 (x.trans x2)
  | exc e ρ => exact Wish.mono x h
  | stuck => exact h
theorem okA.mono {Q : List V → Hp → Prop} {r : Res (List MV × Env)} (x : Ex Hk Hk') (h : okA c F Hk bp σ Q r) : okA c F Hk' bp σ Q r := by
  cases r with
  | ok a => exact fun Hk2 H2 v x2 => h Hk2 H2 v (x.trans x2)
  | exc e ρ => exact Wish.mono x h
  | stuck => exact h
theorem okS.mono {D : Ends} {r : Res (Fl × Env)} (x : Ex Hk Hk') (h : okS c F Hk bp D r) : okS c F Hk' bp D r := by
  cases r with
  | ok a =>
    obtain ⟨f, ρ'⟩ := a
    cases f with
    | nx => exact fun Hk2 H2 σ' x2 => h Hk2 H2 σ' (x.trans x2)
    | br => exact fun Hk2 H2 σ' x2 => h Hk2 H2 σ' (x.trans x2)
    | ct => exact fun Hk2 H2 σ' x2 => h Hk2 H2 σ' (x.trans x2)
    | rt y => exact fun Hk2 H2 σ' v x2 => h Hk2 H2 σ' v (x.trans x2)
  | exc e ρ' => exact fun Hk2 H2 σ' cls d x2 => h Hk2 H2 σ' cls d (x.trans x2)
  | stuck => exact h
def Res.bind {α β : Type} (r : Res (α × Env)) (f : α → Env → Res (β × Env)) : Res (β × Env) :=
  match r with
  | .ok (x, ρ) => f x ρ
  | .exc e ρ => .exc e ρ
  | .stuck => .stuck
end
theorem PEw {X : Cx} {e : Expr} {t t' : TE} (h : PE X e t) (w : ∀ σ H Q, t' σ H Q → t σ H Q) : PE X e t' := ⟨fun pins s σ H Q I q => h.run pins s σ H Q I (w σ H Q q)⟩
theorem PTw {X : Cx} {e : Expr} {t t' : TT} (h : PT X e t) (w : ∀ σ H Q, t' σ H Q → t σ H Q) : PT X e t' := ⟨fun pins s σ H Q I q => h.run pins s σ H Q I (w σ H Q q)⟩
theorem PWw {X : Cx} {e : Expr} {t t' : TT} (h : PW X e t) (w : ∀ σ H Q, t' σ H Q → t σ H Q) : PW X e t' := ⟨fun wh pins s σ H Q I q => h.run wh pins s σ H Q I (w σ H Q q)⟩
theorem PAw {X : Cx} {e : List Expr} {t t' : TA} (h : PA X e t) (w : ∀ σ H Q, t' σ H Q → t σ H Q) : PA X e t' := ⟨fun pos pins s σ H Q I q => h.run pos pins s σ H Q I (w σ H Q q)⟩
theorem PSw {X : Cx} {e : Stmt} {t t' : TS} (h : PS X e t) (w : ∀ D σ H, t' D σ H → t D σ H) : PS X e t' := ⟨fun pins s σ H D I q => h.run pins s σ H D I (w D σ H q)⟩
theorem PSsw {X : Cx} {e : List Stmt} {t t' : TS} (h : PSs X e t) (w : ∀ D σ H, t' D σ H → t D σ H) : PSs X e t' := ⟨fun pins s σ H D I q => h.run pins s σ H D I (w D σ H q)⟩
section
variable {X : Cx} {c : Ct}
def mVar (i : Nat) : ME := fun ρ => match ρ[i]? with
  | some (some (.own xs)) => .ok (.lst xs, ρ.set i (some (.lst xs)))
  | some (some (.obj _ _)) => .stuck
  | some (some (.dow _ _)) => .stuck
  | some (some (.dot _ _)) => .stuck
  | some (some x) => .ok (x, ρ)
  | _ => .stuck
def mC (x : MV) : ME := fun ρ => .ok (x, ρ)
theorem rd_var {i : Nat} {σ : St} {H : Hp} {Q : VK} (h : rdE c (mVar i) σ H Q) : tVar i σ H Q := by
  obtain ⟨F, Hk, bp, ρ, ⟨S, _⟩, h⟩ := h
  have pl : ∀ x : MV, x.per = true → ρ[i]? = some (some x) → (∀ Hk' H' v, Ex Hk Hk' → RS c.K F Hk' H' bp σ ρ → RV c.K Hk' x v → Q v H') → tVar i σ H Q := fun x px e q => by
    obtain ⟨v, ev, r⟩ := S.get e px
    exact ⟨v, ev, q Hk H v (Ex.refl _) S r⟩
  unfold mVar at h
  split at h
  · rename_i xs e
    obtain ⟨p, vs, e1, ex, r, S'⟩ := S.freeze e
    exact ⟨_, e1, h _ _ _ ex S' r⟩
  · exact h.elim
  · exact h.elim
  · exact h.elim
  · rename_i x n1 n2 n3 n4 e
    refine pl x ?_ e h
    cases x <;> first | rfl | (exfalso; first | exact n1 _ rfl | exact n2 _ _ rfl | exact n3 _ _ rfl | exact n4 _ _ rfl)
  · exact h.elim
theorem me_var {i : Nat} {x : Str} {pos : Pos} (hN : X.N[i]? = some x) (hv : Vis X.env.scope x) (hd : (x == ("__debug__" : Str)) = false := by decide) (hcd : (x == ("__classdict__" : Str)) = false := by decide) : PE X (.Name x pos) (rdE c (mVar i)) :=
  PEw (pe_var hN hv hd hcd) fun _ _ _ h => rd_var h
theorem rd_c {x : MV} {v : V} (r : ∀ H, RV c.K H x v) {σ : St} {H : Hp} {Q : VK} (h : rdE c (mC x) σ H Q) : tC v σ H Q := by
  obtain ⟨F, Hk, bp, ρ, ⟨S, _⟩, h⟩ := h
  exact h Hk H v (Ex.refl _) S (r _)
theorem me_int {i j pos} : PE X (.Constant (.int i) j pos) (rdE c (mC (.int i))) := PEw pe_int fun _ _ _ h => rd_c (fun _ => RV.int.mpr rfl) h
theorem me_bl {b j pos} : PE X (.Constant (.bool b) j pos) (rdE c (mC (.bl b))) := PEw pe_bl fun _ _ _ h => rd_c (fun _ => RV.bl.mpr rfl) h
theorem me_non {j pos} : PE X (.Constant .none j pos) (rdE c (mC .non)) := PEw pe_non fun _ _ _ h => rd_c (fun _ => RV.non.mpr rfl) h
theorem me_str {x j pos} : PE X (.Constant (.str x) j pos) (rdE c (mC (.str x))) := PEw pe_str fun _ _ _ h => rd_c (fun _ => RV.str.mpr rfl) h
def mOp (f : MV → MV → Option MV) (a b : ME) : ME := fun ρ => (a ρ).bind fun x ρ1 => (b ρ1).bind fun y ρ2 => match f x y with | some z => .ok (z, ρ2) | none => .stuck
def OpS (K : PySem.W.Frag) (f : MV → MV → Option MV) (r : R2) : Prop := ∀ (x y z : MV) (v w : V) (Hk H : Hp) (Q : VK), f x y = some z → Ex Hk H → RV K Hk x v → RV K Hk y w → (∀ u, RV K Hk z u → Q u H) →
  (∀ p o, H p = none → RV K (upd Hk p o) z (.ref p) → Q (.ref p) (upd H p o)) → r v w H Q
theorem rd_op {f : MV → MV → Option MV} {r : R2} (o : OpS c.K f r) {a b : ME} {σ : St} {H : Hp} {Q : VK} (h : rdE c (mOp f a b) σ H Q) : tOp r (rdE c a) (rdE c b) σ H Q := by
  obtain ⟨F, Hk, bp, ρ, ⟨S, eb⟩, h⟩ := h
  refine ⟨F, Hk, bp, ρ, ⟨S, eb⟩, ?_⟩
  unfold mOp at h
  cases ea : a ρ with
  | stuck => rw [ea] at h; exact h.elim
  | exc e ρ' => rw [ea] at h; exact h
  | ok p =>
    obtain ⟨x, ρ1⟩ := p
    rw [ea] at h
    intro Hk1 H1 v x1 S1 r1
    refine ⟨F, Hk1, bp, ρ1, ⟨S1, eb⟩, ?_⟩
    have h : okE c F Hk bp σ Q ((b ρ1).bind fun y ρ2 => match f x y with | some z => .ok (z, ρ2) | none => .stuck) := h
    cases e2 : b ρ1 with
    | stuck => rw [e2] at h; exact h.elim
    | exc e ρ' => rw [e2] at h; exact Wish.mono x1 h
    | ok p =>
      obtain ⟨y, ρ2⟩ := p
      rw [e2] at h
      intro Hk2 H2 w x2 S2 r2
      have h : okE c F Hk bp σ Q (match f x y with | some z => .ok (z, ρ2) | none => .stuck) := h
      cases ez : f x y with
      | none => rw [ez] at h; exact h.elim
      | some z =>
        rw [ez] at h
        refine o x y z v w Hk2 H2 Q ez S2.ex (RV.mono x2 _ _ r1) r2 (fun u ru => h Hk2 H2 u (x1.trans x2) S2 ru) fun p ob hp ru => ?_
        exact h _ _ _ ((x1.trans x2).trans (Ex.new (S2.ex.back hp))) (S2.new hp) ru
theorem me_op {op : Operator} {f : MV → MV → Option MV} {r : R2} {a b : Expr} {ma mb : ME} {pos : Pos} (ho : OpR X (binaryOp op) r) (o : OpS c.K f r) (ha : PE X a (rdE c ma)) (hb : PE X b (rdE c mb)) : PE X (.BinOp a op b pos) (rdE c (mOp f ma mb)) :=
  PEw (pe_op ho ha hb) fun _ _ _ h => rd_op o h
theorem me_cmp {op : CmpOp} {f : MV → MV → Option MV} {r : R2} {a b : Expr} {ma mb : ME} {pos : Pos} (ho : OpR X (compareOp op) r) (o : OpS c.K f r) (ha : PE X a (rdE c ma)) (hb : PE X b (rdE c mb)) (hm : behindInMarks op b = false) : PE X (.Compare a [op] [b] pos) (rdE c (mOp f ma mb)) :=
  PEw (pe_cmpR ho ha hb hm) fun _ _ _ h => rd_op o h
end
end Tm
set_option Elab.async false
set_option linter.all false
set_option maxRecDepth 100000
set_option maxHeartbeats 2000000
namespace Tm
open PySem L2
open Evl (Ex ex_rd ex_l ex_t)
def szOk (n : Nat) : Bool := decide (n ≤ sizeLine)
def fAdd : MV → MV → Option MV
  | .int i, .int j => some (.int (i + j))
  | .int i, .bl b => some (.int (i + PyProof.Rows.b2i b))
  | .str a, .str b => if szOk (a.length + b.length) then some (.str (a ++ b)) else none
  | .lst a, .lst b => if szOk (a.length + b.length) then some (.lst (a ++ b)) else none
  | .tup a, .tup b => if szOk (a.length + b.length) then some (.tup (a ++ b)) else none
  | _, _ => none
def mulOk (i j : Int) : Bool := (decide (-(2 ^ 64) < i) && decide (i < 2 ^ 64)) || (decide (-(2 ^ 64) < j) && decide (j < 2 ^ 64)) || decide (i.natAbs.log2 + j.natAbs.log2 < 1000000)
instance (i j : Int) : Decidable (CMulW i j) := inferInstanceAs (Decidable (i.natAbs.log2 + j.natAbs.log2 < 1000000))
def repS (a : Str) (k : Int) : Str := ⟨(List.replicate k.toNat a.cps.toList).flatten.toArray⟩
def fMul : MV → MV → Option MV
  | .int i, .int j => if mulOk i j then some (.int (i * j)) else none
  | .tup a, .int k => if decide (-(2 ^ 63) ≤ k) && decide (k < 2 ^ 63) && (decide (k = 1) || a.isEmpty || (decide (2 ≤ k) && decide (k ≤ 1000) && decide (a.length ≤ 1000))) then some (.tup (List.replicate k.toNat a).flatten) else none
  | .str a, .int k => if decide (-(2 ^ 63) ≤ k) && decide (k < 2 ^ 63) && szOk (a.length * k.toNat) then some (.str (repS a k)) else none
  | .lst a, .int k => if decide (-(2 ^ 63) ≤ k) && decide (k < 2 ^ 63) && szOk (a.length * k.toNat) then some (.lst (List.replicate k.toNat a).flatten) else none
  | _, _ => none
def divOk (j : Int) : Bool := (decide (j ≠ 0) && decide (j.natAbs < 1073741824)) || (decide (0 < j) && decide (j.natAbs.log2 < 9000))
def fDiv : MV → MV → Option MV
  | .int i, .int j => if divOk j then some (.int (i.fdiv j)) else none
  | _, _ => none
def fMod : MV → MV → Option MV
  | .int i, .int j => if decide (j ≠ 0) then some (.int (i.fmod j)) else none
  | _, _ => none
def fPow : MV → MV → Option MV
  | .int i, .int j => if decide (0 ≤ j) && decide (j ≤ 1000000) && decide (i.natAbs < 2 ^ 64) then some (.int (i ^ j.toNat)) else none
  | _, _ => none
def fLt : MV → MV → Option MV
  | .int i, .int j => some (.bl (decide (i < j)))
  | _, _ => none
def fLe : MV → MV → Option MV
  | .int i, .int j => some (.bl (decide (i ≤ j)))
  | _, _ => none
def fGt : MV → MV → Option MV
  | .int i, .int j => some (.bl (decide (j < i)))
  | _, _ => none
def fGe : MV → MV → Option MV
  | .int i, .int j => some (.bl (decide (j ≤ i)))
  | _, _ => none
def MV.isN : MV → Bool
  | .non => true
  | .raw w => decide (w = .non)
  | _ => false
def fIsN : MV → MV → Option MV
  | x, .non => some (.bl x.isN)
  | _, _ => none
def fNotN : MV → MV → Option MV
  | x, .non => some (.bl (!x.isN))
  | _, _ => none
def scalM : MV → MV → Bool
  | .non, .non => true | .non, .int _ => true | .int _, .non => true | .non, .bl _ => true | .bl _, .non => true | .non, .str _ => true | .str _, .non => true
  | .int _, .int _ => true | .bl _, .bl _ => true | .str _, .str _ => true
  | .int _, .str _ => true | .str _, .int _ => true | .bl _, .str _ => true | .str _, .bl _ => true
  | _, _ => false
def sameM : MV → MV → Bool
  | .non, .non => true
  | .int i, .int j => decide (i = j)
  | .bl i, .bl j => decide (i = j)
  | .str i, .str j => decide (i = j)
  | _, _ => false
mutual
def toD : MV → Option PyData
  | .non => some .none
  | .bl b => some (.bool b)
  | .int i => some (.int i)
  | .str x => some (.str x)
  | .tup xs => (toDs xs).map .tuple
  | .lst xs => (toDs xs).map .list
  | _ => none
def toDs : List MV → Option (List PyData)
  | [] => some []
  | x :: xs => match toD x, toDs xs with
    | some d, some ds => some (d :: ds)
    | _, _ => none
end
def eqM (x y : MV) : Option Bool :=
  if scalM x y then some (sameM x y) else
  match toD x, toD y with
  | some d, some e => if SeqAt.shaped d && SeqAt.shaped e then some (PyData.eqv d e) else none
  | _, _ => none
def fEq (x y : MV) : Option MV := (eqM x y).map .bl
def fNe (x y : MV) : Option MV := (eqM x y).map fun b => .bl (!b)
section
variable {K : PySem.W.Frag}
def rAddM (K : PySem.W.Frag) : R2 := fun x y H Q => (rI0 fun i j => .int (i + j)) x y H Q ∨ (∃ i k, x = .int i ∧ y = .bl k ∧ Q (.int (i + PyProof.Rows.b2i k)) H) ∨ (∃ i j, x = .str i ∧ y = .str j ∧ i.length + j.length ≤ sizeLine ∧ Q (.str (i ++ j)) H) ∨ rCat x y H Q ∨ rCatA K x y H Q
theorem op_addM {X : Cx} : OpR X (binaryOp .Add) (rAddM X.K) := OpR.or op_add (OpR.or op_add_ib (OpR.or op_add_str (OpR.or op_cat op_catA)))
theorem szOk_iff {n : Nat} : szOk n = true ↔ n ≤ sizeLine := by unfold szOk; simp
theorem os_add : OpS K fAdd (rAddM K) := by
  intro x y z v w Hk H Q e ex r1 r2 q qn
  unfold fAdd at e
  split at e
  · cases e
    exact .inl ⟨_, _, RV.int.mp r1, RV.int.mp r2, q _ (RV.int.mpr rfl)⟩
  · cases e
    exact .inr (.inl ⟨_, _, RV.int.mp r1, RV.bl.mp r2, q _ (RV.int.mpr rfl)⟩)
  · split at e
    · rename_i a b h
      cases e
      exact .inr (.inr (.inl ⟨_, _, RV.str.mp r1, RV.str.mp r2, szOk_iff.mp h, q _ (RV.str.mpr rfl)⟩))
    · cases e
  · split at e
    · rename_i a b h
      cases e
      obtain ⟨p1, vs, rfl, h1, s1⟩ := RV.lst.mp r1
      obtain ⟨p2, ws, rfl, h2, s2⟩ := RV.lst.mp r2
      refine .inr (.inr (.inr (.inl ⟨p1, p2, vs, ws, rfl, rfl, ex _ _ h1, ex _ _ h2, ?_, fun p hp => qn p _ hp ?_⟩)))
      · rw [s1.length, s2.length]; exact szOk_iff.mp h
      · have z := Ex.new (o := .lst (vs ++ ws)) (ex.back hp)
        exact RV.lst.mpr ⟨p, _, rfl, upd_same, (s1.append s2).mono z⟩
    · cases e
  · split at e
    · rename_i a b h
      cases e
      obtain ⟨p1, vs, rfl, h1, s1⟩ := RV.tup.mp r1
      obtain ⟨p2, ws, rfl, h2, s2⟩ := RV.tup.mp r2
      refine .inr (.inr (.inr (.inr ⟨p1, p2, vs, ws, rfl, rfl, ex_t ex h1, ex_t ex h2, ?_, fun e0 => ?_, fun e0 e1 => ?_, fun e0 e1 p hp => qn p _ hp ?_⟩)))
      · rw [s1.length, s2.length]; exact szOk_iff.mp h
      · have z := s1.append s2
        rw [e0, List.nil_append] at z
        exact q _ (RV.tup.mpr ⟨p2, ws, rfl, h2, z⟩)
      · have z := s1.append s2
        rw [e1, List.append_nil] at z
        exact q _ (RV.tup.mpr ⟨p1, vs, rfl, h1, z⟩)
      · have z := Ex.new (o := .tup (vs ++ ws)) (ex.back hp)
        exact RV.tup.mpr ⟨p, _, rfl, SqT.of upd_same, (s1.append s2).mono z⟩
    · cases e
  · cases e
open PySem.Spec PyProof.Rows in
theorem tuple_mulSame (l : Addr) (items : Array Value) (n : Nat) (dd : Option Addr) (sl : Array (Option Value)) (x : Int) (u : Tok) (c0 : (decide (x < -(2 ^ 63)) || decide (x ≥ 2 ^ 63)) = false) (c1 : (items.isEmpty || x == 1) = true) :
    Meets (Builtin.«tuple.__mul__» ⟨[.ref l, .int x u], []⟩) (fun _ R s => s.heap.get? l = some { cls := .type "tuple", dict := dd, data := .seq items n, slots := sl } ∧ R (.ok (.ret (Value.ref l))) s) :=
  .of_wp fun prog w A R s h => by
    obtain ⟨hp, g, d, tk, os⟩ := s
    obtain ⟨hl, h⟩ := h
    have f1 := AutoSeq1.idx_int
    wp_walk using wpAny_loadPart' hl
    repeat (first
      | (refine wpAny_ite_false (decide_eq_false (by rw [c0]; exact Bool.false_ne_true)) ?_; wp_walk using wpAny_loadPart' hl)
      | (refine wpAny_ite_true (decide_eq_true c1) ?_; wp_walk using wpAny_loadPart' hl))
    exact ⟨_, rfl, h⟩
def rRepTS (K : PySem.W.Frag) : R2 := fun x y H Q => ∃ l k xs, x = .ref l ∧ y = .int k ∧ SqT K H l xs ∧ (k = 1 ∨ xs = []) ∧ -(2 ^ 63) ≤ k ∧ k < 2 ^ 63 ∧ Q (.ref l) H
open PySem.Spec PyProof.Rows in
theorem op_repTS {X : Cx} : OpR X (binaryOp .Mult) (rRepTS X.K) := by
  intro pins s σ H x y v u Q I rx ry h
  obtain ⟨l, k, xs, rfl, rfl, hT, hs, h1, h2, q⟩ := h
  cases rx
  obtain ⟨t, rfl⟩ := ry
  obtain ⟨its, r, ⟨⟨cls, dd, data, sl⟩, ho, hc, n, hd⟩, _⟩ := I.tuple hT
  simp only at hc hd
  subst hc hd
  have hle : its.length = xs.length := r.length.symm
  have c0 : (decide (k < -(2 ^ 63)) || decide (k ≥ 2 ^ 63)) = false := by
    rw [decide_eq_false (by omega), decide_eq_false (by omega)] <;> rfl
  have c1 : (its.toArray.isEmpty || k == 1) = true := by
    rw [Bool.or_eq_true]
    rcases hs with rfl | rfl
    · exact .inr rfl
    · have : its = [] := List.length_eq_zero_iff.mp hle
      subst this
      exact .inl rfl
  exact wpAny_binaryOp_repeat_ref (T := "tuple") (U := "int") (by decide) ⟨_, ho, rfl⟩ (fun s' => typeIs_int s' k t) noFill_tuple_mul F.fills_int_mul F.slot_int_rmul repeat_tuple F.slot_int_index.lookup
    (call_meets F.slot_int_rmul (typeIs_int s k t) F.entry_int_rmul (F.args_int_rmul_2 _ _) (int_rmul_tuple k t l its.toArray n dd sl)
      ⟨ho, rfl, ⟨_, ho, rfl⟩, call_meets F.slot_tuple_mul ⟨_, ho, rfl⟩ F.entry_tuple_mul (F.args_tuple_mul_2 _ _) (tuple_mulSame l its.toArray n dd sl k t c0 c1) ⟨ho, ⟨.ref l, H, I, rfl, q⟩⟩⟩)
def rRepS : R2 := fun x y H Q => ∃ a k, x = .str a ∧ y = .int k ∧ -(2 ^ 63) ≤ k ∧ k < 2 ^ 63 ∧ a.length * k.toNat ≤ sizeLine ∧ Q (.str (repS a k)) H
theorem rep_foldl (l : Array Nat) : ∀ (n : Nat) (acc : Array Nat), (List.replicate n l).foldl (· ++ ·) acc = (acc.toList ++ (List.replicate n l.toList).flatten).toArray
  | 0, acc => by simp
  | n + 1, acc => by
    rw [List.replicate_succ, List.foldl_cons, rep_foldl l n, List.replicate_succ, List.flatten_cons]
    simp
theorem op_repS {X : Cx} : OpR X (binaryOp .Mult) rRepS := by
  intro pins s σ H x y v u Q I rx ry h
  obtain ⟨a, k, rfl, rfl, h1, h2, hz, q⟩ := h
  obtain ⟨t, rfl⟩ := rx
  obtain ⟨t', rfl⟩ := ry
  have sz : sizeLine = 16777216 := rfl
  refine PySem.P.mul_str ?_ ?_ ?_ ?_
  · rw [decide_eq_false (by omega), decide_eq_false (by omega)]; rfl
  · intro h3 h4 h5
    have hk : 1 < k := by
      have : (k == 1) = false := by cases e : (k == 1) <;> simp [e] at h4 ⊢
      have := beq_eq_false_iff_ne.mp this
      omega
    have e1 : ((a.length : Int) * k) ≤ 16777216 := by
      rw [sz] at hz
      have : ((a.length * k.toNat : Nat) : Int) ≤ 16777216 := by omega
      rw [Int.natCast_mul, Int.toNat_of_nonneg (by omega)] at this
      exact this
    have e2 : (a.length : Int) ≤ (2 ^ 63 - 1) / k := by
      refine (Int.le_ediv_iff_mul_le (by omega)).mpr ?_
      omega
    omega
  · intro h3 h4
    unfold Builtin.Str.tooLong
    exact decide_eq_false (by omega)
  · split
    · rename_i h3
      refine ⟨by decide, .str (repS a k), H, I.tok _, ⟨s.toks, ?_⟩, q⟩
      have : k.toNat = 0 := by omega
      unfold repS
      rw [this]; rfl
    · split
      · rename_i h3 h4
        refine ⟨.str (repS a k), H, I, ⟨t, ?_⟩, q⟩
        have : repS a k = a := by
          unfold repS
          rw [Bool.or_eq_true] at h4
          rcases h4 with h4 | h4
          · have : k = 1 := by simpa using h4
            subst this
            show (⟨([a.cps.toList].flatten).toArray⟩ : Str) = a
            simp
          · have e0 : a.cps.toList = [] := by
              have : a.length = 0 := by simpa using h4
              exact List.length_eq_zero_iff.mp (by rw [Array.length_toList]; exact this)
            rw [e0]
            have : ∀ n : Nat, (List.replicate n ([] : List Nat)).flatten = [] := fun n => by simp
            rw [this]
            cases a with
            | mk cps =>
              simp only at e0
              rw [← e0]
        rw [this]
      · rename_i h3 h4
        have e1 : (⟨(List.replicate k.toNat a.cps).foldl (· ++ ·) #[]⟩ : Str) = repS a k := by
          unfold repS
          rw [rep_foldl]
          rfl
        rw [e1]
        refine ⟨?_, .str (repS a k), H, I.tok _, ⟨s.toks, rfl⟩, q⟩
        show (List.replicate k.toNat a.cps.toList).flatten.toArray.size ≤ sizeLine
        rw [List.size_toArray, PyProof.Rows.lm_len_rep_flat, Nat.mul_comm]
        exact hz
def rMulM (K : PySem.W.Frag) : R2 := fun x y H Q => (rI CMul fun i j => .int (i * j)) x y H Q ∨ (rI CMulW fun i j => .int (i * j)) x y H Q ∨ rRep x y H Q ∨ rRepS x y H Q ∨ rRepTS K x y H Q ∨ rRepT K x y H Q
theorem op_mulM {X : Cx} : OpR X (binaryOp .Mult) (rMulM X.K) := OpR.or op_mul (OpR.or op_mulW (OpR.or op_rep (OpR.or op_repS (OpR.or op_repTS op_repT))))
theorem RVs.rep {H : Hp} {xs : List MV} {vs : List V} (h : RVs K H xs vs) : ∀ n : Nat, RVs K H (List.replicate n xs).flatten (List.replicate n vs).flatten
  | 0 => by simp [RVs]
  | n + 1 => by
    rw [List.replicate_succ, List.replicate_succ, List.flatten_cons, List.flatten_cons]
    exact h.append (RVs.rep h n)
theorem os_mul : OpS K fMul (rMulM K) := by
  intro x y z v w Hk H Q e ex r1 r2 q qn
  unfold fMul at e
  split at e
  · rename_i i j
    split at e
    · rename_i h
      cases e
      unfold mulOk at h
      rw [Bool.or_eq_true] at h
      rcases h with h | h
      · refine .inl ⟨i, j, RV.int.mp r1, RV.int.mp r2, ?_, q _ (RV.int.mpr rfl)⟩
        simp only [Bool.or_eq_true, Bool.and_eq_true, decide_eq_true_eq] at h
        exact h
      · exact .inr (.inl ⟨i, j, RV.int.mp r1, RV.int.mp r2, of_decide_eq_true h, q _ (RV.int.mpr rfl)⟩)
    · cases e
  · rename_i a k
    split at e
    · rename_i h
      cases e
      simp only [Bool.and_eq_true, Bool.or_eq_true, decide_eq_true_eq] at h
      obtain ⟨p1, vs, rfl, h1, s1⟩ := RV.tup.mp r1
      have hvl := s1.length
      by_cases hk : k = 1 ∨ vs = []
      · refine .inr (.inr (.inr (.inr (.inl ⟨p1, k, vs, rfl, RV.int.mp r2, ex_t ex h1, hk, h.1.1, h.1.2, q _ ?_⟩))))
        have er : (List.replicate k.toNat a).flatten = a := by
          rcases hk with rfl | rfl
          · simp
          · have : a = [] := List.length_eq_zero_iff.mp (by simpa using hvl.symm)
            subst this; simp
        rw [er]
        exact RV.tup.mpr ⟨p1, vs, rfl, h1, s1⟩
      · have hk2 : 2 ≤ k ∧ k ≤ 1000 ∧ a.length ≤ 1000 := by
          rcases h.2 with (h2 | h2) | h2
          · exact absurd (.inl h2) hk
          · exact absurd (.inr (List.length_eq_zero_iff.mp (by rw [hvl]; simpa using h2))) hk
          · exact ⟨h2.1.1, h2.1.2, h2.2⟩
        refine .inr (.inr (.inr (.inr (.inr ⟨p1, k, vs, rfl, RV.int.mp r2, ex_t ex h1, fun e0 => hk (.inr e0), hk2.1, hk2.2.1, by rw [hvl]; exact hk2.2.2, fun p hp => qn p _ hp ?_⟩))))
        have z := Ex.new (o := .tup (List.replicate k.toNat vs).flatten) (ex.back hp)
        exact RV.tup.mpr ⟨p, _, rfl, SqT.of upd_same, (RVs.rep s1 _).mono z⟩
    · cases e
  · rename_i a k
    split at e
    · rename_i h
      cases e
      simp only [Bool.and_eq_true, decide_eq_true_eq] at h
      exact .inr (.inr (.inr (.inl ⟨a, k, RV.str.mp r1, RV.int.mp r2, h.1.1, h.1.2, szOk_iff.mp h.2, q _ (RV.str.mpr rfl)⟩)))
    · cases e
  · rename_i a k
    split at e
    · rename_i h
      cases e
      simp only [Bool.and_eq_true, decide_eq_true_eq] at h
      obtain ⟨p1, vs, rfl, h1, s1⟩ := RV.lst.mp r1
      refine .inr (.inr (.inl ⟨p1, k, vs, rfl, RV.int.mp r2, ex _ _ h1, h.1.1, h.1.2, ?_, fun p hp => qn p _ hp ?_⟩))
      · rw [s1.length]; exact szOk_iff.mp h.2
      · have z := Ex.new (o := .lst (List.replicate k.toNat vs).flatten) (ex.back hp)
        exact RV.lst.mpr ⟨p, _, rfl, upd_same, (RVs.rep s1 _).mono z⟩
    · cases e
  · cases e
def rDivM : R2 := fun x y H Q => (rI CDivN fun i j => .int (i.fdiv j)) x y H Q ∨ (rI CDivW fun i j => .int (i / j)) x y H Q
theorem op_divM {X : Cx} : OpR X (binaryOp .FloorDiv) rDivM := OpR.or op_fdivN op_fdivW
theorem os_div : OpS K fDiv rDivM := by
  intro x y z v w Hk H Q e ex r1 r2 q qn
  unfold fDiv at e
  split at e
  · rename_i i j
    split at e
    · rename_i h
      cases e
      unfold divOk at h
      rw [Bool.or_eq_true] at h
      rcases h with h | h
      · simp only [Bool.and_eq_true, decide_eq_true_eq] at h
        exact .inl ⟨i, j, RV.int.mp r1, RV.int.mp r2, h, q _ (RV.int.mpr rfl)⟩
      · simp only [Bool.and_eq_true, decide_eq_true_eq] at h
        refine .inr ⟨i, j, RV.int.mp r1, RV.int.mp r2, h, ?_⟩
        have := q _ (RV.int.mpr rfl)
        rw [Int.fdiv_eq_ediv_of_nonneg i (by omega)] at this
        exact this
    · cases e
  · cases e
theorem os_mod : OpS K fMod (rI (fun _ j => j ≠ 0) fun i j => .int (i.fmod j)) := by
  intro x y z v w Hk H Q e ex r1 r2 q qn
  unfold fMod at e
  split at e
  · split at e
    · rename_i h
      cases e
      exact ⟨_, _, RV.int.mp r1, RV.int.mp r2, of_decide_eq_true h, q _ (RV.int.mpr rfl)⟩
    · cases e
  · cases e
theorem os_pow : OpS K fPow (rI CPow fun i j => .int (i ^ j.toNat)) := by
  intro x y z v w Hk H Q e ex r1 r2 q qn
  unfold fPow at e
  split at e
  · split at e
    · rename_i h
      cases e
      simp only [Bool.and_eq_true, decide_eq_true_eq] at h
      exact ⟨_, _, RV.int.mp r1, RV.int.mp r2, ⟨h.1.1, h.1.2, h.2⟩, q _ (RV.int.mpr rfl)⟩
    · cases e
  · cases e
theorem os_lt : OpS K fLt (rI0 fun i j => .bl (decide (i < j))) := by
  intro x y z v w Hk H Q e ex r1 r2 q qn
  unfold fLt at e
  split at e
  · cases e; exact ⟨_, _, RV.int.mp r1, RV.int.mp r2, q _ (RV.bl.mpr rfl)⟩
  · cases e
theorem os_le : OpS K fLe (rI0 fun i j => .bl (decide (i ≤ j))) := by
  intro x y z v w Hk H Q e ex r1 r2 q qn
  unfold fLe at e
  split at e
  · cases e; exact ⟨_, _, RV.int.mp r1, RV.int.mp r2, q _ (RV.bl.mpr rfl)⟩
  · cases e
theorem os_gt : OpS K fGt (rI0 fun i j => .bl (decide (j < i))) := by
  intro x y z v w Hk H Q e ex r1 r2 q qn
  unfold fGt at e
  split at e
  · cases e; exact ⟨_, _, RV.int.mp r1, RV.int.mp r2, q _ (RV.bl.mpr rfl)⟩
  · cases e
theorem os_ge : OpS K fGe (rI0 fun i j => .bl (decide (j ≤ i))) := by
  intro x y z v w Hk H Q e ex r1 r2 q qn
  unfold fGe at e
  split at e
  · cases e; exact ⟨_, _, RV.int.mp r1, RV.int.mp r2, q _ (RV.bl.mpr rfl)⟩
  · cases e
theorem RV.isnon {H : Hp} {x : MV} {v : V} (h : RV K H x v) : decide (v = .non) = x.isN := by
  cases x with
  | raw w => rw [RV.raw.mp h]; rfl
  | own _ => unfold RV at h; exact h.elim
  | obj _ _ => unfold RV at h; exact h.elim
  | non => rw [RV.non.mp h]; rfl
  | int i => rw [RV.int.mp h]; rfl
  | bl i => rw [RV.bl.mp h]; rfl
  | str i => rw [RV.str.mp h]; rfl
  | tup xs => obtain ⟨a, vs, e, _⟩ := RV.tup.mp h; rw [e]; rfl
  | lst xs => obtain ⟨a, vs, e, _⟩ := RV.lst.mp h; rw [e]; rfl
  | scr xs => obtain ⟨a, e, _⟩ := RV.scr.mp h; rw [e]; rfl
  | fnc x => obtain ⟨a, e, _⟩ := RV.fnc.mp h; rw [e]; rfl
  | dct ks xs => obtain ⟨a, vs, e, _⟩ := RV.dct.mp h; rw [e]; rfl
  | dow _ _ => unfold RV at h; exact h.elim
  | dot _ _ => unfold RV at h; exact h.elim
theorem os_isN : OpS K fIsN (fun x y H Q => y = .non ∧ Q (.bl (decide (x = .non))) H) := by
  intro x y z v w Hk H Q e ex r1 r2 q qn
  unfold fIsN at e
  split at e
  · cases e; refine ⟨RV.non.mp r2, ?_⟩
    rw [r1.isnon]; exact q _ (RV.bl.mpr rfl)
  · cases e
theorem os_notN : OpS K fNotN (fun x y H Q => y = .non ∧ Q (.bl (!decide (x = .non))) H) := by
  intro x y z v w Hk H Q e ex r1 r2 q qn
  unfold fNotN at e
  split at e
  · cases e; refine ⟨RV.non.mp r2, ?_⟩
    rw [r1.isnon]; exact q _ (RV.bl.mpr rfl)
  · cases e
theorem scal_of {H : Hp} {x y : MV} {v w : V} (h : scalM x y = true) (r1 : RV K H x v) (r2 : RV K H y w) : scal v w = true ∧ decide (v = w) = sameM x y := by
  unfold scalM at h
  split at h <;> first | (cases h; done) | skip
  all_goals
    first
      | (rw [RV.non.mp r1] ) | (rw [RV.int.mp r1]) | (rw [RV.bl.mp r1]) | (rw [RV.str.mp r1])
    first
      | (rw [RV.non.mp r2] ) | (rw [RV.int.mp r2]) | (rw [RV.bl.mp r2]) | (rw [RV.str.mp r2])
    refine ⟨rfl, ?_⟩
    simp [sameM]
mutual
theorem Dp.of {Hk H : Hp} (ex : Ex Hk H) : ∀ (x : MV) (v : V) (d : PyData), RV K Hk x v → toD x = some d → Dp K H v d
  | .non, v, d, r, e => by rw [RV.non.mp r]; unfold toD at e; cases e; exact .non
  | .bl b, v, d, r, e => by rw [RV.bl.mp r]; unfold toD at e; cases e; exact .bl b
  | .int b, v, d, r, e => by rw [RV.int.mp r]; unfold toD at e; cases e; exact .int b
  | .str b, v, d, r, e => by rw [RV.str.mp r]; unfold toD at e; cases e; exact .str b
  | .tup xs, v, d, r, e => by
    obtain ⟨a, vs, rfl, h, s⟩ := RV.tup.mp r
    unfold toD at e
    cases e2 : toDs xs with
    | none => rw [e2] at e; cases e
    | some ds =>
      rw [e2] at e; cases e
      exact .tup (ex_t ex h) (DpAll.of ex xs vs ds s e2)
  | .lst xs, v, d, r, e => by
    obtain ⟨a, vs, rfl, h, s⟩ := RV.lst.mp r
    unfold toD at e
    cases e2 : toDs xs with
    | none => rw [e2] at e; cases e
    | some ds =>
      rw [e2] at e; cases e
      exact .lst (SqL.of (ex _ _ h)) (DpAll.of ex xs vs ds s e2)
  | .own _, v, d, r, e => by unfold toD at e; cases e
  | .raw _, v, d, r, e => by unfold toD at e; cases e
  | .scr _, v, d, r, e => by unfold toD at e; cases e
  | .fnc _, v, d, r, e => by unfold toD at e; cases e
  | .obj _ _, v, d, r, e => by unfold toD at e; cases e
  | .dct _ _, v, d, r, e => by unfold toD at e; cases e
  | .dow _ _, v, d, r, e => by unfold toD at e; cases e
  | .dot _ _, v, d, r, e => by unfold toD at e; cases e
theorem DpAll.of {Hk H : Hp} (ex : Ex Hk H) : ∀ (xs : List MV) (vs : List V) (ds : List PyData), RVs K Hk xs vs → toDs xs = some ds → DpAll K H vs ds
  | [], vs, ds, r, e => by rw [RVs.nil.mp r]; unfold toDs at e; cases e; exact .nil
  | x :: xs, vs, ds, r, e => by
    obtain ⟨v, us, rfl, r1, r2⟩ := RVs.cons.mp r
    unfold toDs at e
    split at e
    · rename_i d ds' e1 e2
      cases e
      exact .cons (Dp.of ex x v d r1 e1) (DpAll.of ex xs us ds' r2 e2)
    · cases e
end
def rEqM (K : PySem.W.Frag) : R2 := fun x y H Q => rEq x y H Q ∨ rEqD K x y H Q
def rNeM (K : PySem.W.Frag) : R2 := fun x y H Q => rNe x y H Q ∨ rNeD K x y H Q
theorem op_eqM {X : Cx} (hu : X.A.units + 64 < cLine) : OpR X (compareOp .Eq) (rEqM X.K) := OpR.or op_eq (op_eqD hu)
theorem op_neM {X : Cx} (hu : X.A.units + 64 < cLine) : OpR X (compareOp .NotEq) (rNeM X.K) := OpR.or op_ne (op_neD hu)
theorem os_eq : OpS K fEq (rEqM K) := by
  intro x y z v w Hk H Q e ex r1 r2 q qn
  unfold fEq eqM at e
  split at e
  · rename_i h
    obtain ⟨s1, s2⟩ := scal_of h r1 r2
    cases e
    refine .inl ⟨s1, ?_⟩
    rw [s2]; exact q _ (RV.bl.mpr rfl)
  · split at e
    · rename_i d e' e1 e2
      split at e
      · rename_i h
        rw [Bool.and_eq_true] at h
        cases e
        exact .inr ⟨d, e', Dp.of ex _ _ _ r1 e1, Dp.of ex _ _ _ r2 e2, h.1, h.2, q _ (RV.bl.mpr rfl)⟩
      · cases e
    · cases e
theorem os_ne : OpS K fNe (rNeM K) := by
  intro x y z v w Hk H Q e ex r1 r2 q qn
  unfold fNe eqM at e
  split at e
  · rename_i h
    obtain ⟨s1, s2⟩ := scal_of h r1 r2
    cases e
    refine .inl ⟨s1, ?_⟩
    rw [s2]; exact q _ (RV.bl.mpr rfl)
  · split at e
    · rename_i d e' e1 e2
      split at e
      · rename_i h
        rw [Bool.and_eq_true] at h
        cases e
        exact .inr ⟨d, e', Dp.of ex _ _ _ r1 e1, Dp.of ex _ _ _ r2 e2, h.1, h.2, q _ (RV.bl.mpr rfl)⟩
      · cases e
    · cases e
def fIx : MV → MV → Option MV
  | .lst xs, .int i => atI xs i
  | .tup xs, .int i => atI xs i
  | .scr ns, .int i => (atI ns i).map .int
  | .str z, .int i => if szOk z.length then (atI z.cps.toList i).map fun c => .str ⟨#[c]⟩ else none
  | _, _ => none
theorem atI_rv {H : Hp} {xs : List MV} {vs : List V} (r : RVs K H xs vs) {i : Int} {x : MV} (e : atI xs i = some x) : ∃ v, atI vs i = some v ∧ RV K H x v := by
  unfold atI at e ⊢
  rw [r.length]
  cases h : ixN xs.length i with
  | none => rw [h] at e; cases e
  | some j =>
    rw [h] at e
    exact r.get e
theorem atI_map {α β : Type} {f : α → β} {xs : List α} {i : Int} {x : α} (e : atI xs i = some x) : atI (xs.map f) i = some (f x) := by
  unfold atI at e ⊢
  rw [List.length_map]
  cases h : ixN xs.length i with
  | none => rw [h] at e; cases e
  | some j =>
    rw [h] at e
    show (xs.map f)[j]? = _
    rw [List.getElem?_map, show xs[j]? = some x from e]; rfl
theorem os_ix : OpS K fIx (rIx K) := by
  intro x y z v w Hk H Q e ex r1 r2 q qn
  unfold fIx at e
  split at e
  · obtain ⟨p1, vs, rfl, h1, s1⟩ := RV.lst.mp r1
    obtain ⟨u, eu, ru⟩ := atI_rv s1 e
    exact .inl ⟨p1, vs, _, u, rfl, RV.int.mp r2, SqL.of (ex _ _ h1), eu, q _ ru⟩
  · obtain ⟨p1, vs, rfl, h1, s1⟩ := RV.tup.mp r1
    obtain ⟨u, eu, ru⟩ := atI_rv s1 e
    exact .inr (.inl ⟨p1, vs, _, u, rfl, RV.int.mp r2, ex_t ex h1, eu, q _ ru⟩)
  · rename_i ns i
    obtain ⟨p1, rfl, h1⟩ := RV.scr.mp r1
    cases h : atI ns i with
    | none => rw [h] at e; cases e
    | some n =>
      rw [h] at e; cases e
      exact .inl ⟨p1, _, _, _, rfl, RV.int.mp r2, ex_l ex h1, atI_map h, q _ (RV.int.mpr rfl)⟩
  · rename_i s i
    split at e
    · rename_i hz
      cases h : atI s.cps.toList i with
      | none => rw [h] at e; cases e
      | some n =>
        rw [h] at e; cases e
        exact .inr (.inr ⟨s, i, n, RV.str.mp r1, RV.int.mp r2, szOk_iff.mp hz, h, q _ (RV.str.mpr rfl)⟩)
    · cases e
  · cases e
def flatM : MV → Bool
  | .non | .bl _ | .int _ | .str _ => true
  | _ => false
def eqFlat : MV → MV → Bool
  | .non, .non => true
  | .bl a, .bl b => a == b
  | .bl a, .int b => (if a then 1 else 0) == b
  | .int a, .bl b => a == (if b then 1 else 0)
  | .int a, .int b => a == b
  | .str a, .str b => a == b
  | _, _ => false
theorem flat_v {H : Hp} {x : MV} {v : V} (h : flatM x = true) (r : RV K H x v) : flatV v = true := by
  unfold flatM at h
  split at h <;> first | (cases h; done) | skip
  · rw [RV.non.mp r]; rfl
  · rw [RV.bl.mp r]; rfl
  · rw [RV.int.mp r]; rfl
  · rw [RV.str.mp r]; rfl
theorem flat_eq {H : Hp} {x y : MV} {v w : V} (h : flatM x = true) (h2 : flatM y = true) (r : RV K H x v) (r2 : RV K H y w) : eqV v w = eqFlat x y := by
  unfold flatM at h h2
  split at h <;> first | (cases h; done) | skip
  all_goals (split at h2 <;> first | (cases h2; done) | skip)
  all_goals
    first
      | (rw [RV.non.mp r] ) | (rw [RV.int.mp r]) | (rw [RV.bl.mp r]) | (rw [RV.str.mp r])
    first
      | (rw [RV.non.mp r2] ) | (rw [RV.int.mp r2]) | (rw [RV.bl.mp r2]) | (rw [RV.str.mp r2])
    rfl
theorem flats_v {H : Hp} : ∀ {xs : List MV} {vs : List V}, xs.all flatM = true → RVs K H xs vs → vs.all flatV = true
  | [], vs, _, r => by rw [RVs.nil.mp r]; rfl
  | x :: xs, vs, h, r => by
    obtain ⟨v, us, rfl, r1, r2⟩ := RVs.cons.mp r
    rw [List.all_cons, Bool.and_eq_true] at h
    rw [List.all_cons, flat_v h.1 r1, flats_v h.2 r2]; rfl
theorem inV_eq {H : Hp} {y : MV} {w : V} (hy : flatM y = true) (ry : RV K H y w) : ∀ {xs : List MV} {vs : List V}, xs.all flatM = true → RVs K H xs vs → inV w vs = xs.any fun x => eqFlat x y
  | [], vs, _, r => by rw [RVs.nil.mp r]; rfl
  | x :: xs, vs, h, r => by
    obtain ⟨v, us, rfl, r1, r2⟩ := RVs.cons.mp r
    rw [List.all_cons, Bool.and_eq_true] at h
    have ih := inV_eq hy ry h.2 r2
    unfold inV at ih ⊢
    rw [List.any_cons, List.any_cons, ih, flat_eq h.1 hy r1 ry]
def inM (y : MV) (xs : List MV) : Option Bool := if flatM y && xs.all flatM then some (xs.any fun x => eqFlat x y) else none
def inA : MV → MV → Option Bool
  | y, .lst xs => inM y xs
  | y, .tup xs => inM y xs
  | .str i, .str j => some (!(Builtin.Str.occurrences j i 0 j.length 1).isEmpty)
  | _, _ => none
def fIn (x y : MV) : Option MV := (inA x y).map .bl
def rInM (K : PySem.W.Frag) : R2 := fun x y H Q => rIn K false x y H Q ∨ (∃ i j, x = .str i ∧ y = .str j ∧ Q (.bl (!(Builtin.Str.occurrences j i 0 j.length 1).isEmpty)) H)
theorem op_inM {X : Cx} : OpR X (compareOp .In) (rInM X.K) := OpR.or op_in_seq op_in_str
theorem in_sq {Hk H : Hp} {x y : MV} {v w : V} {b : Bool} (ex : Ex Hk H) (r1 : RV K Hk x v) (r2 : RV K Hk y w) (e : inA x y = some b) :
    (∃ p xs, w = .ref p ∧ (SqL K H p xs ∨ SqT K H p xs) ∧ flatV v = true ∧ xs.all flatV = true ∧ inV v xs = b) ∨ (∃ i j, v = .str i ∧ w = .str j ∧ (!(Builtin.Str.occurrences j i 0 j.length 1).isEmpty) = b) := by
  unfold inA at e
  split at e
  · unfold inM at e
    split at e
    · rename_i h
      cases e
      rw [Bool.and_eq_true] at h
      obtain ⟨p1, vs, rfl, h1, s1⟩ := RV.lst.mp r2
      exact .inl ⟨p1, vs, rfl, .inl (SqL.of (ex _ _ h1)), flat_v h.1 r1, flats_v h.2 s1, inV_eq h.1 r1 h.2 s1⟩
    · cases e
  · unfold inM at e
    split at e
    · rename_i h
      cases e
      rw [Bool.and_eq_true] at h
      obtain ⟨p1, vs, rfl, h1, s1⟩ := RV.tup.mp r2
      exact .inl ⟨p1, vs, rfl, .inr (ex_t ex h1), flat_v h.1 r1, flats_v h.2 s1, inV_eq h.1 r1 h.2 s1⟩
    · cases e
  · cases e
    exact .inr ⟨_, _, RV.str.mp r1, RV.str.mp r2, rfl⟩
  · cases e
theorem os_in : OpS K fIn (rInM K) := by
  intro x y z v w Hk H Q e ex r1 r2 q qn
  unfold fIn at e
  cases eb : inA x y with
  | none => rw [eb] at e; cases e
  | some b =>
    rw [eb] at e; cases e
    rcases in_sq ex r1 r2 eb with ⟨p, xs, e1, e2, e3, e4, e5⟩ | ⟨i, j, e1, e2, e3⟩
    · exact .inl ⟨p, xs, e1, e2, e3, e4, by rw [if_neg (by decide), e5]; exact q _ (RV.bl.mpr rfl)⟩
    · exact .inr ⟨i, j, e1, e2, by rw [e3]; exact q _ (RV.bl.mpr rfl)⟩
end
end Tm
set_option Elab.async false
set_option linter.all false
set_option maxRecDepth 100000
set_option maxHeartbeats 2000000
namespace Tm
open PySem L2
open Evl (Ex ex_rd ex_l ex_t)
structure Post (c : Ct) (F : Hp) (bp : List (Nat × Addr)) (σ : St) {β : Type} (P : Hp → Res (β × Env) → Prop) : Prop where
  ex : ∀ Hk e ρ, P Hk (.exc e ρ) → Wish c F Hk bp σ e ρ
  st : ∀ Hk, ¬ P Hk .stuck
  mono : ∀ Hk Hk' r, Ex Hk Hk' → P Hk r → P Hk' r
section
variable {c : Ct} {F Hk H : Hp} {bp : List (Nat × Addr)} {σ : St} {ρ : Env} {β : Type}
theorem postE {Q : VK} : Post c F bp σ fun Hk r => okE c F Hk bp σ Q r := ⟨fun _ _ _ h => h, fun _ h => h, fun _ _ _ x h => okE.mono x h⟩
theorem postO {Q : VK} : Post c F bp σ fun Hk r => okO c F Hk bp σ Q r := ⟨fun _ _ _ h => h, fun _ h => h, fun _ _ _ x h => okO.mono x h⟩
theorem postT {Q : Bool → Hp → Prop} : Post c F bp σ fun Hk r => okT c F Hk bp σ Q r := ⟨fun _ _ _ h => h, fun _ h => h, fun _ _ _ x h => okT.mono x h⟩
theorem postA {Q : List V → Hp → Prop} : Post c F bp σ fun Hk r => okA c F Hk bp σ Q r := ⟨fun _ _ _ h => h, fun _ h => h, fun _ _ _ x h => okA.mono x h⟩
theorem postS {D : Ends} : Post c F bp σ fun Hk r => okS c F Hk bp D r := ⟨fun _ _ _ h Hk' H' cls d => h Hk' H' σ cls d, fun _ h => h, fun _ _ _ x h => okS.mono x h⟩
variable {P : Hp → Res (β × Env) → Prop}
theorem bE (p : Post c F bp σ P) {a : ME} {k : MV → Env → Res (β × Env)} (S : At c F Hk H bp σ ρ) (h : P Hk ((a ρ).bind k)) :
    rdE c a σ H fun v H1 => ∃ Hk1 x ρ1, Ex Hk Hk1 ∧ At c F Hk1 H1 bp σ ρ1 ∧ RV c.K Hk1 x v ∧ P Hk1 (k x ρ1) := by
  refine ⟨F, Hk, bp, ρ, S, ?_⟩
  cases e : a ρ with
  | stuck => rw [e] at h; exact p.st _ h
  | exc x ρ' => rw [e] at h; exact p.ex _ _ _ h
  | ok q =>
    rw [e] at h
    exact fun Hk1 H1 v x1 S1 r1 => ⟨Hk1, q.1, q.2, x1, ⟨S1, S.2⟩, r1, p.mono _ _ _ x1 h⟩
theorem bO (p : Post c F bp σ P) {a : ME} {k : MV → Env → Res (β × Env)} (S : At c F Hk H bp σ ρ) (h : P Hk ((a ρ).bind k)) :
    rdO c a σ H fun v H1 => ∃ Hk1 x ρ1, Ex Hk Hk1 ∧ RS c.K F Hk1 H1 bp (σ ++ [some v]) (ρ1 ++ [some x]) ∧ P Hk1 (k x ρ1) := by
  refine ⟨F, Hk, bp, ρ, S, ?_⟩
  cases e : a ρ with
  | stuck => rw [e] at h; exact p.st _ h
  | exc x ρ' => rw [e] at h; exact p.ex _ _ _ h
  | ok q =>
    rw [e] at h
    exact fun Hk1 H1 v x1 S1 => ⟨Hk1, q.1, q.2, x1, S1, p.mono _ _ _ x1 h⟩
theorem bT (p : Post c F bp σ P) {a : MT} {k : Bool → Env → Res (β × Env)} (S : At c F Hk H bp σ ρ) (h : P Hk ((a ρ).bind k)) :
    rdT c a σ H fun b H1 => ∃ Hk1 ρ1, Ex Hk Hk1 ∧ At c F Hk1 H1 bp σ ρ1 ∧ P Hk1 (k b ρ1) := by
  refine ⟨F, Hk, bp, ρ, S, ?_⟩
  cases e : a ρ with
  | stuck => rw [e] at h; exact p.st _ h
  | exc x ρ' => rw [e] at h; exact p.ex _ _ _ h
  | ok q =>
    rw [e] at h
    exact fun Hk1 H1 x1 S1 => ⟨Hk1, q.2, x1, ⟨S1, S.2⟩, p.mono _ _ _ x1 h⟩
theorem bA (p : Post c F bp σ P) {a : MA} {k : List MV → Env → Res (β × Env)} (S : At c F Hk H bp σ ρ) (h : P Hk ((a ρ).bind k)) :
    rdA c a σ H fun vs H1 => ∃ Hk1 xs ρ1, Ex Hk Hk1 ∧ At c F Hk1 H1 bp σ ρ1 ∧ RVs c.K Hk1 xs vs ∧ P Hk1 (k xs ρ1) := by
  refine ⟨F, Hk, bp, ρ, S, ?_⟩
  cases e : a ρ with
  | stuck => rw [e] at h; exact p.st _ h
  | exc x ρ' => rw [e] at h; exact p.ex _ _ _ h
  | ok q =>
    rw [e] at h
    exact fun Hk1 H1 vs x1 S1 r1 => ⟨Hk1, q.1, q.2, x1, ⟨S1, S.2⟩, r1, p.mono _ _ _ x1 h⟩
end
section
variable {c : Ct}
theorem okE.imp {F Hk : Hp} {bp : List (Nat × Addr)} {σ : St} {Q Q' : VK} {r : Res (MV × Env)} (h : okE c F Hk bp σ Q r) (w : ∀ v H, Q v H → Q' v H) : okE c F Hk bp σ Q' r := by
  cases r with
  | ok a => exact fun Hk2 H2 v x S r => w _ _ (h Hk2 H2 v x S r)
  | exc e ρ => exact h
  | stuck => exact h
theorem okT.imp {F Hk : Hp} {bp : List (Nat × Addr)} {σ : St} {Q Q' : Bool → Hp → Prop} {r : Res (Bool × Env)} (h : okT c F Hk bp σ Q r) (w : ∀ v H, Q v H → Q' v H) : okT c F Hk bp σ Q' r := by
  cases r with
  | ok a => exact fun Hk2 H2 x S => w _ _ (h Hk2 H2 x S)
  | exc e ρ => exact h
  | stuck => exact h
theorem okA.imp {F Hk : Hp} {bp : List (Nat × Addr)} {σ : St} {Q Q' : List V → Hp → Prop} {r : Res (List MV × Env)} (h : okA c F Hk bp σ Q r) (w : ∀ v H, Q v H → Q' v H) : okA c F Hk bp σ Q' r := by
  cases r with
  | ok a => exact fun Hk2 H2 v x S r => w _ _ (h Hk2 H2 v x S r)
  | exc e ρ => exact h
  | stuck => exact h
theorem okO.imp {F Hk : Hp} {bp : List (Nat × Addr)} {σ : St} {Q Q' : VK} {r : Res (MV × Env)} (h : okO c F Hk bp σ Q r) (w : ∀ v H, Q v H → Q' v H) : okO c F Hk bp σ Q' r := by
  cases r with
  | ok a => exact fun Hk2 H2 v x S => w _ _ (h Hk2 H2 v x S)
  | exc e ρ => exact h
  | stuck => exact h
theorem rdw {m : ME} {σ : St} {H : Hp} {Q Q' : VK} (h : rdE c m σ H Q) (w : ∀ v H, Q v H → Q' v H) : rdE c m σ H Q' := let ⟨F, Hk, bp, ρ, S, q⟩ := h; ⟨F, Hk, bp, ρ, S, q.imp w⟩
theorem rdOw {m : ME} {σ : St} {H : Hp} {Q Q' : VK} (h : rdO c m σ H Q) (w : ∀ v H, Q v H → Q' v H) : rdO c m σ H Q' := let ⟨F, Hk, bp, ρ, S, q⟩ := h; ⟨F, Hk, bp, ρ, S, q.imp w⟩
theorem rdTw {m : MT} {σ : St} {H : Hp} {Q Q' : Bool → Hp → Prop} (h : rdT c m σ H Q) (w : ∀ v H, Q v H → Q' v H) : rdT c m σ H Q' := let ⟨F, Hk, bp, ρ, S, q⟩ := h; ⟨F, Hk, bp, ρ, S, q.imp w⟩
theorem rdAw {m : MA} {σ : St} {H : Hp} {Q Q' : List V → Hp → Prop} (h : rdA c m σ H Q) (w : ∀ v H, Q v H → Q' v H) : rdA c m σ H Q' := let ⟨F, Hk, bp, ρ, S, q⟩ := h; ⟨F, Hk, bp, ρ, S, q.imp w⟩
end
section
variable {X : Cx} {c : Ct}
def mTest (a : ME) : MT := fun ρ => (a ρ).bind fun x ρ1 => match x with | .bl b => .ok (b, ρ1) | _ => .stuck
theorem rd_test {a : ME} {σ : St} {H : Hp} {Q : Bool → Hp → Prop} (h : rdT c (mTest a) σ H Q) : (rdE c a) σ H fun x H' => ∃ k, x = .bl k ∧ Q k H' := by
  obtain ⟨F, Hk, bp, ρ, S, h⟩ := h
  obtain ⟨F', Hk', bp', ρ', S', h'⟩ := bE postT S h
  refine ⟨F', Hk', bp', ρ', S', ?_⟩
  cases e : a ρ' with
  | stuck => rw [e] at h'; exact h'
  | exc x r => rw [e] at h'; exact h'
  | ok q =>
    rw [e] at h'
    intro Hk1 H1 v x1 S1 r1
    obtain ⟨Hk2, x, ρ2, x2, S2, r2, h2⟩ := h' Hk1 H1 v x1 S1 r1
    cases x with
    | bl b => exact ⟨b, RV.bl.mp r2, h2 _ _ (Ex.refl _) S2.1⟩
    | _ => exact h2.elim
theorem mt_cmp {op : CmpOp} {f : MV → MV → Option MV} {r : R2} {a b : Expr} {ma mb : ME} {pos : Pos} (ho : OpR X (compareOp op) r) (o : OpS c.K f r) (ha : PE X a (rdE c ma)) (hb : PE X b (rdE c mb)) (hm : behindInMarks op b = false) :
    PT X (.Compare a [op] [b] pos) (rdT c (mTest (mOp f ma mb))) := PTw (pt_cmpR ho ha hb hm) fun σ H Q h => rd_op (Q := fun x H' => ∃ k, x = .bl k ∧ Q k H') o (rd_test h)
theorem mt_val {e : Expr} {m : ME} (h : PE X e (rdE c m)) (he : ∀ whole, isTrue e X.env whole = (do let v ← whole; standAt e.pos; holding [v] (truthy v)) := by intro _; rfl) : PT X e (rdT c (mTest m)) :=
  PTw (pt_val h he) fun σ H Q h => rd_test h
def mChain (f g : MV → MV → Option MV) (a b d : ME) : ME := fun ρ => (a ρ).bind fun x ρ1 => (b ρ1).bind fun y ρ2 => match f x y with
  | some (.bl true) => (d ρ2).bind fun z ρ3 => match g y z with | some w => .ok (w, ρ3) | none => .stuck
  | some (.bl false) => .ok (.bl false, ρ2)
  | _ => .stuck
theorem opEnd {f : MV → MV → Option MV} {r : R2} (o : OpS c.K f r) {F Hk H : Hp} {bp : List (Nat × Addr)} {σ : St} {ρ : Env} {Q : VK} {x y : MV} {v w : V} (S : At c F Hk H bp σ ρ) (r1 : RV c.K Hk x v) (r2 : RV c.K Hk y w)
    (h : okE c F Hk bp σ Q (match f x y with | some z => .ok (z, ρ) | none => .stuck)) : r v w H Q := by
  cases e : f x y with
  | none => rw [e] at h; exact h.elim
  | some z =>
    rw [e] at h
    exact o x y z v w Hk H Q e S.1.ex r1 r2 (fun u ru => h _ _ u (Ex.refl _) S.1 ru) fun p ob hp ru => h _ _ _ (Ex.new (S.1.ex.back hp)) (S.1.new hp) ru
theorem rd_chain {f g : MV → MV → Option MV} {r r' : R2} (o : OpS c.K f r) (o' : OpS c.K g r') {a b d : ME} {σ : St} {H : Hp} {Q : VK} (h : rdE c (mChain f g a b d) σ H Q) : tChain r r' (rdE c a) (rdE c b) (rdE c d) σ H Q := by
  obtain ⟨F, Hk, bp, ρ, S, h⟩ := h
  refine rdw (bE postE S h) fun v H1 ⟨Hk1, x, ρ1, x1, S1, r1, h1⟩ => ?_
  refine rdw (bE postE S1 h1) fun w H2 ⟨Hk2, y, ρ2, x2, S2, r2, h2⟩ => ?_
  split at h2
  · rename_i e
    refine o x y _ v w Hk2 H2 _ e S2.1.ex (RV.mono x2 _ _ r1) r2 (fun u ru => ⟨true, RV.bl.mp ru, ?_⟩) fun p ob hp ru => nomatch (RV.bl.mp ru)
    rw [if_pos rfl]
    refine rdw (bE postE S2 h2) fun z H3 ⟨Hk3, zz, ρ3, x3, S3, r3, h3⟩ => ?_
    exact opEnd o' S3 (RV.mono x3 _ _ r2) r3 h3
  · rename_i e
    refine o x y _ v w Hk2 H2 _ e S2.1.ex (RV.mono x2 _ _ r1) r2 (fun u ru => ⟨false, RV.bl.mp ru, ?_⟩) fun p ob hp ru => nomatch (RV.bl.mp ru)
    rw [if_neg (by decide)]
    exact h2 _ _ _ (Ex.refl _) S2.1 (RV.bl.mpr rfl)
  · exact h2.elim
theorem me_chain {op op' : CmpOp} {f g : MV → MV → Option MV} {r r' : R2} {a b d : Expr} {ma mb md : ME} {pos : Pos} (ho : OpR X (compareOp op) r) (o : OpS c.K f r) (ho' : OpR X (compareOp op') r') (o' : OpS c.K g r')
    (ha : PE X a (rdE c ma)) (hb : PE X b (rdE c mb)) (hd : PE X d (rdE c md)) (hm : lastMarks [op, op'] [b, d] = false := by with_unfolding_all rfl) : PE X (.Compare a [op, op'] [b, d] pos) (rdE c (mChain f g ma mb md)) :=
  PEw (pe_chain ho ho' ha hb hd hm) fun _ _ _ h => rd_chain o o' h
def mAndT (a b : MT) : MT := fun ρ => (a ρ).bind fun x ρ1 => if x then b ρ1 else .ok (false, ρ1)
def mOrT (a b : MT) : MT := fun ρ => (a ρ).bind fun x ρ1 => if x then .ok (true, ρ1) else b ρ1
def mNotT (a : MT) : MT := fun ρ => (a ρ).bind fun x ρ1 => .ok (!x, ρ1)
def mBv (t : MT) : ME := fun ρ => (t ρ).bind fun x ρ1 => .ok (.bl x, ρ1)
theorem rd_andT {a b : MT} {σ : St} {H : Hp} {Q : Bool → Hp → Prop} (h : rdT c (mAndT a b) σ H Q) : tAnd (rdT c a) (rdT c b) σ H Q := by
  obtain ⟨F, Hk, bp, ρ, S, h⟩ := h
  refine rdTw (bT postT S h) fun k H1 ⟨Hk1, ρ1, x1, S1, h1⟩ => ?_
  cases k with
  | true => rw [if_pos rfl] at h1 ⊢; exact ⟨F, Hk1, bp, ρ1, S1, h1⟩
  | false => rw [if_neg (by decide)] at h1 ⊢; exact h1 _ _ (Ex.refl _) S1.1
theorem rd_orT {a b : MT} {σ : St} {H : Hp} {Q : Bool → Hp → Prop} (h : rdT c (mOrT a b) σ H Q) : tOr (rdT c a) (rdT c b) σ H Q := by
  obtain ⟨F, Hk, bp, ρ, S, h⟩ := h
  refine rdTw (bT postT S h) fun k H1 ⟨Hk1, ρ1, x1, S1, h1⟩ => ?_
  cases k with
  | true => rw [if_pos rfl] at h1 ⊢; exact h1 _ _ (Ex.refl _) S1.1
  | false => rw [if_neg (by decide)] at h1 ⊢; exact ⟨F, Hk1, bp, ρ1, S1, h1⟩
theorem rd_notT {a : MT} {σ : St} {H : Hp} {Q : Bool → Hp → Prop} (h : rdT c (mNotT a) σ H Q) : tNot (rdT c a) σ H Q := by
  obtain ⟨F, Hk, bp, ρ, S, h⟩ := h
  exact rdTw (bT postT S h) fun k H1 ⟨Hk1, ρ1, x1, S1, h1⟩ => h1 _ _ (Ex.refl _) S1.1
theorem mw_one_and {a : Expr} {m : MT} {pos : Pos} (h : PT X a (rdT c m)) : PW X (.BoolOp .And [a] pos) (rdT c m) := pw_and1 h
theorem mw_one_or {a : Expr} {m : MT} {pos : Pos} (h : PT X a (rdT c m)) : PW X (.BoolOp .Or [a] pos) (rdT c m) := pw_or1 h
theorem mw_and {a b : Expr} {r : List Expr} {m n : MT} {pos : Pos} (h : PT X a (rdT c m)) (g : PW X (.BoolOp .And (b :: r) pos) (rdT c n)) : PW X (.BoolOp .And (a :: b :: r) pos) (rdT c (mAndT m n)) := PWw (pw_and h g) fun _ _ _ q => rd_andT q
theorem mw_or {a b : Expr} {r : List Expr} {m n : MT} {pos : Pos} (h : PT X a (rdT c m)) (g : PW X (.BoolOp .Or (b :: r) pos) (rdT c n)) : PW X (.BoolOp .Or (a :: b :: r) pos) (rdT c (mOrT m n)) := PWw (pw_or h g) fun _ _ _ q => rd_orT q
theorem mt_not {a : Expr} {m : MT} {pos : Pos} (h : PT X a (rdT c m)) : PT X (.UnaryOp .Not a pos) (rdT c (mNotT m)) := PTw (pt_not h) fun _ _ _ q => rd_notT q
theorem okBv {F Hk : Hp} {bp : List (Nat × Addr)} {σ : St} {Q : VK} {r : Res (Bool × Env)} (h : okT c F Hk bp σ (fun k H => Q (.bl k) H) r) : okE c F Hk bp σ Q (r.bind fun x ρ1 => .ok (.bl x, ρ1)) := by
  cases r with
  | ok a =>
    intro Hk2 H2 v x S rv
    rw [RV.bl.mp rv]
    exact h Hk2 H2 x S
  | exc e ρ => exact h
  | stuck => exact h
theorem rdBv {t : MT} {σ : St} {H : Hp} {Q : VK} (h : rdT c t σ H fun k H1 => Q (.bl k) H1) : rdE c (mBv t) σ H Q := let ⟨F, Hk, bp, ρ, S, q⟩ := h; ⟨F, Hk, bp, ρ, S, okBv q⟩
theorem rdBv' {t : MT} {σ : St} {H : Hp} {Q : VK} (h : rdE c (mBv t) σ H Q) : rdT c t σ H fun k H1 => Q (.bl k) H1 := by
  obtain ⟨F, Hk, bp, ρ, S, h⟩ := h
  exact rdTw (bT postE S h) fun k H1 ⟨Hk1, ρ1, x1, S1, h1⟩ => h1 _ _ _ (Ex.refl _) S1.1 (RV.bl.mpr rfl)
end
end Tm
set_option Elab.async false
set_option linter.all false
set_option maxRecDepth 100000
set_option maxHeartbeats 2000000
namespace Tm
open PySem L2
open Evl (Ex ex_rd ex_l ex_t)
section
variable {X : Cx} {c : Ct}
theorem rd_oneV {a : ME} {σ : St} {H : Hp} {Q : VK} (h : rdE c (mBv (mTest a)) σ H Q) : rdE c a σ H Q := rdw (rd_test (rdBv' h)) fun v H1 ⟨k, e, q⟩ => by rw [e]; exact q
theorem me_one {op : BoolOp} {a : Expr} {m : ME} {pos : Pos} (h : PE X a (rdE c m)) : PE X (.BoolOp op [a] pos) (rdE c (mBv (mTest m))) := PEw (pe_one h) fun _ _ _ q => rd_oneV q
theorem me_and {a b : Expr} {r : List Expr} {m : ME} {t : MT} {pos : Pos} (h : PE X a (rdE c m)) (g : PE X (.BoolOp .And (b :: r) pos) (rdE c (mBv t))) : PE X (.BoolOp .And (a :: b :: r) pos) (rdE c (mBv (mAndT (mTest m) t))) :=
  PEw (pe_and h g) fun σ H Q q => rdw (rd_test (rd_andT (rdBv' q))) fun v H1 ⟨k, e, q⟩ => ⟨k, e, by
    cases k with
    | true => rw [if_pos rfl] at q ⊢; exact rdBv q
    | false => rw [if_neg (by decide)] at q ⊢; exact q⟩
theorem me_not {a : Expr} {m : ME} {pos : Pos} (h : PE X a (rdE c m)) : PE X (.UnaryOp .Not a pos) (rdE c (mBv (mNotT (mTest m)))) :=
  PEw (pe_not h) fun σ H Q q => rdw (rd_test (rd_notT (rdBv' q))) fun v H1 ⟨k, e, q⟩ => ⟨k, e, q⟩
def mNil : MA := fun ρ => .ok ([], ρ)
def mCons (a : ME) (b : MA) : MA := fun ρ => (a ρ).bind fun x ρ1 => (b ρ1).bind fun xs ρ2 => .ok (x :: xs, ρ2)
theorem ma_nil : PA X [] (rdA c mNil) := PAw pa_nil fun σ H Q h => by
  obtain ⟨F, Hk, bp, ρ, S, h⟩ := h
  exact h _ _ _ (Ex.refl _) S.1 (RVs.nil.mpr rfl)
theorem ma_cons {e : Expr} {es : List Expr} {a : ME} {b : MA} (ha : PE X e (rdE c a)) (hb : PA X es (rdA c b)) (hs : starEach (e :: es) X.env = (false, eval e X.env) :: starEach es X.env := by rfl) : PA X (e :: es) (rdA c (mCons a b)) :=
  PAw (pa_cons ha hb hs) fun σ H Q h => by
    obtain ⟨F, Hk, bp, ρ, S, h⟩ := h
    refine rdw (bE postA S h) fun v H1 ⟨Hk1, x, ρ1, x1, S1, r1, h1⟩ => ?_
    refine rdAw (bA postA S1 h1) fun vs H2 ⟨Hk2, xs, ρ2, x2, S2, r2, h2⟩ => ?_
    exact h2 _ _ _ (Ex.refl _) S2.1 (RVs.cons.mpr ⟨v, vs, rfl, RV.mono x2 _ _ r1, r2⟩)
def mTup (a : MA) : ME := fun ρ => (a ρ).bind fun xs ρ1 => if szOk xs.length then .ok (.tup xs, ρ1) else .stuck
def mLst (a : MA) : ME := fun ρ => (a ρ).bind fun xs ρ1 => if szOk xs.length then .ok (.lst xs, ρ1) else .stuck
def mLstO (a : MA) : ME := fun ρ => (a ρ).bind fun xs ρ1 => if szOk xs.length then .ok (.own xs, ρ1) else .stuck
theorem me_tup {es : List Expr} {a : MA} {pos : Pos} {k : Nat} (h : PA X es (rdA c a)) : PE X (.Tuple es k pos) (rdE c (mTup a)) := PEw (pe_tup h) fun σ H Q h => by
  obtain ⟨F, Hk, bp, ρ, S, h⟩ := h
  refine rdAw (bA postE S h) fun vs H1 ⟨Hk1, xs, ρ1, x1, S1, r1, h1⟩ => ?_
  split at h1
  · rename_i hz
    refine ⟨by rw [r1.length]; exact szOk_iff.mp hz, fun p hp => h1 _ _ _ (Ex.new (S1.1.ex.back hp)) (S1.1.new hp) (RV.tup.mpr ⟨p, vs, rfl, SqT.of upd_same, r1.mono (Ex.new (S1.1.ex.back hp))⟩)⟩
  · exact h1.elim
theorem me_lst {es : List Expr} {a : MA} {pos : Pos} (h : PA X es (rdA c a)) : PE X (.List es pos) (rdE c (mLst a)) := PEw (pe_lst h) fun σ H Q h => by
  obtain ⟨F, Hk, bp, ρ, S, h⟩ := h
  refine rdAw (bA postE S h) fun vs H1 ⟨Hk1, xs, ρ1, x1, S1, r1, h1⟩ => ?_
  split at h1
  · rename_i hz
    refine ⟨by rw [r1.length]; exact szOk_iff.mp hz, fun p hp => h1 _ _ _ (Ex.new (S1.1.ex.back hp)) (S1.1.new hp) (RV.lst.mpr ⟨p, vs, rfl, upd_same, r1.mono (Ex.new (S1.1.ex.back hp))⟩)⟩
  · exact h1.elim
theorem mo_lst {es : List Expr} {a : MA} {pos : Pos} (h : PA X es (rdA c a)) : PE X (.List es pos) (rdO c (mLstO a)) := PEw (pe_lst h) fun σ H Q h => by
  obtain ⟨F, Hk, bp, ρ, S, h⟩ := h
  refine rdAw (bA postO S h) fun vs H1 ⟨Hk1, xs, ρ1, x1, S1, r1, h1⟩ => ?_
  split at h1
  · rename_i hz
    exact ⟨by rw [r1.length]; exact szOk_iff.mp hz, fun p hp => h1 _ _ _ (Ex.refl _) (S1.1.pushOwn hp r1)⟩
  · exact h1.elim
theorem me_ix {a b : Expr} {ma mb : ME} {pos : Pos} (ha : PE X a (rdE c ma)) (hb : PE X b (rdE c mb)) (hK : c.K = X.K := by rfl) (hs : PlainIx b := by exact fun _ _ => rfl) : PE X (.Subscript a b pos) (rdE c (mOp fIx ma mb)) :=
  PEw (pe_ix ix_seq ha hb hs) fun _ _ _ q => rd_op (by rw [hK]; exact os_ix) q
def has (ρ : Env) (i : Nat) : Bool := match ρ[i]? with | some (some _) => true | _ => false
def mNo : Env → Res (Option Int × Env) := fun ρ => .ok (none, ρ)
def mPart (a : ME) : Env → Res (Option Int × Env) := fun ρ => (a ρ).bind fun x ρ1 => match x with | .int i => .ok (some i, ρ1) | _ => .stuck
def okP (c : Ct) (F Hk : Hp) (bp : List (Nat × Addr)) (σ : St) (Q : Option Int → Hp → Prop) : Res (Option Int × Env) → Prop
  | .ok (x, ρ') => ∀ Hk' H', Ex Hk Hk' → RS c.K F Hk' H' bp σ ρ' → Q x H'
  | .exc e ρ' => Wish c F Hk bp σ e ρ'
  | .stuck => False
theorem okP.mono {F Hk Hk' : Hp} {bp : List (Nat × Addr)} {σ : St} {Q : Option Int → Hp → Prop} {r : Res (Option Int × Env)} (x : Ex Hk Hk') (h : okP c F Hk bp σ Q r) : okP c F Hk' bp σ Q r := by
  cases r with
  | ok a => exact fun Hk2 H2 x2 => h Hk2 H2 (x.trans x2)
  | exc e ρ => exact Wish.mono x h
  | stuck => exact h
theorem postP {F : Hp} {bp : List (Nat × Addr)} {σ : St} {Q : Option Int → Hp → Prop} : Post c F bp σ fun Hk r => okP c F Hk bp σ Q r := ⟨fun _ _ _ h => h, fun _ h => h, fun _ _ _ x h => okP.mono x h⟩
def rdP (c : Ct) (m : Env → Res (Option Int × Env)) : TO := fun σ H Q => ∃ F Hk bp ρ, At c F Hk H bp σ ρ ∧ okP c F Hk bp σ Q (m ρ)
theorem POw {e : Option Expr} {t t' : TO} (h : PO X e t) (w : ∀ σ H Q, t' σ H Q → t σ H Q) : PO X e t' := ⟨fun pins s σ H Q I q => h.run pins s σ H Q I (w σ H Q q)⟩
theorem mp_none : PO X none (rdP c mNo) := POw po_none fun σ H Q ⟨F, Hk, bp, ρ, S, h⟩ => h _ _ (Ex.refl _) S.1
theorem mp_some {e : Expr} {m : ME} (h : PE X e (rdE c m)) : PO X (some e) (rdP c (mPart m)) := POw (po_some h) fun σ H Q ⟨F, Hk, bp, ρ, S, h⟩ => rdw (bE postP S h) fun v H1 ⟨Hk1, x, ρ1, x1, S1, r1, h1⟩ => by
  cases x with
  | int i => exact ⟨i, RV.int.mp r1, h1 _ _ (Ex.refl _) S1.1⟩
  | _ => exact h1.elim
theorem bP {F Hk H : Hp} {bp : List (Nat × Addr)} {σ : St} {ρ : Env} {β : Type} {P : Hp → Res (β × Env) → Prop} (p : Post c F bp σ P) {a : Env → Res (Option Int × Env)} {k : Option Int → Env → Res (β × Env)} (S : At c F Hk H bp σ ρ) (h : P Hk ((a ρ).bind k)) :
    rdP c a σ H fun b H1 => ∃ Hk1 ρ1, Ex Hk Hk1 ∧ At c F Hk1 H1 bp σ ρ1 ∧ P Hk1 (k b ρ1) := by
  refine ⟨F, Hk, bp, ρ, S, ?_⟩
  cases e : a ρ with
  | stuck => rw [e] at h; exact p.st _ h
  | exc x ρ' => rw [e] at h; exact p.ex _ _ _ h
  | ok q =>
    rw [e] at h
    exact fun Hk1 H1 x1 S1 => ⟨Hk1, q.2, x1, ⟨S1, S.2⟩, p.mono _ _ _ x1 h⟩
def cutM (xs : List MV) (lo hi : Option Int) : List MV := (xs.drop (HT.sIx xs.length 0 lo)).take (HT.sIx xs.length xs.length hi - HT.sIx xs.length 0 lo)
theorem RVs.cut {K : PySem.W.Frag} {H : Hp} {xs : List MV} {vs : List V} (r : RVs K H xs vs) (lo hi : Option Int) : RVs K H (cutM xs lo hi) (cutV vs lo hi) := by
  unfold cutM cutV
  rw [r.length]
  exact (r.drop _).take _
def fSl : MV → Option Int → Option Int → Option MV
  | .lst xs, lo, hi => some (.lst (cutM xs lo hi))
  | .tup xs, lo, hi => some (.tup (cutM xs lo hi))
  | .str z, lo, hi => if szOk z.length then some (.str (cutS z lo hi)) else none
  | _, _, _ => none
def rSlM (K : PySem.W.Frag) : V → Option Int → Option Int → Hp → VK → Prop := fun x lo hi H Q => rSlL K x lo hi H Q ∨ rSlA K x lo hi H Q ∨ rSlS x lo hi H Q
theorem sl_M : SlR X (rSlM X.K) := SlR.or sl_list (SlR.or sl_tupA sl_str)
theorem whole_cut {xs : List MV} {lo hi : Option Int} (h : HT.sIx xs.length 0 lo = 0 ∧ HT.sIx xs.length xs.length hi = xs.length) : cutM xs lo hi = xs := by
  unfold cutM
  rw [h.1, h.2]
  simp
theorem os_sl {K : PySem.W.Frag} {x z : MV} {lo hi : Option Int} {v : V} {Hk H : Hp} {Q : VK} (e : fSl x lo hi = some z) (ex : Ex Hk H) (r1 : RV K Hk x v) (q : ∀ u, RV K Hk z u → Q u H)
    (qn : ∀ p o, H p = none → RV K (upd Hk p o) z (.ref p) → Q (.ref p) (upd H p o)) : rSlM K v lo hi H Q := by
  unfold fSl at e
  split at e
  · cases e
    obtain ⟨p1, vs, rfl, h1, s1⟩ := RV.lst.mp r1
    refine .inl ⟨p1, vs, rfl, SqL.of (ex _ _ h1), fun p hp => qn p _ hp ?_⟩
    exact RV.lst.mpr ⟨p, _, rfl, upd_same, (s1.cut lo hi).mono (Ex.new (ex.back hp))⟩
  · cases e
    obtain ⟨p1, vs, rfl, h1, s1⟩ := RV.tup.mp r1
    refine .inr (.inl ⟨p1, vs, rfl, ex_t ex h1, fun hw => ?_, fun hw p hp => qn p _ hp ?_⟩)
    · rw [s1.length] at hw
      rw [whole_cut hw] at q
      exact q _ r1
    · exact RV.tup.mpr ⟨p, _, rfl, SqT.of upd_same, (s1.cut lo hi).mono (Ex.new (ex.back hp))⟩
  · split at e
    · rename_i hz
      cases e
      exact .inr (.inr ⟨_, RV.str.mp r1, szOk_iff.mp hz, q _ (RV.str.mpr rfl)⟩)
    · cases e
  · cases e
def mSl (a : ME) (l h : Env → Res (Option Int × Env)) : ME := fun ρ => (a ρ).bind fun x ρ1 => (l ρ1).bind fun i ρ2 => (h ρ2).bind fun j ρ3 => match fSl x i j with | some z => .ok (z, ρ3) | none => .stuck
theorem rd_sl {a : ME} {l h' : Env → Res (Option Int × Env)} {σ : St} {H : Hp} {Q : VK} (h : rdE c (mSl a l h') σ H Q) : tSl (rSlM c.K) (rdE c a) (rdP c l) (rdP c h') σ H Q := by
  obtain ⟨F, Hk, bp, ρ, S, h⟩ := h
  refine rdw (bE postE S h) fun v H1 ⟨Hk1, x, ρ1, x1, S1, r1, h1⟩ => ?_
  have w : ∀ {m : Env → Res (Option Int × Env)} {σ : St} {H : Hp} {Q Q' : Option Int → Hp → Prop}, rdP c m σ H Q → (∀ v H, Q v H → Q' v H) → rdP c m σ H Q' := fun {m σ H Q Q'} ⟨F, Hk, bp, ρ, S, q⟩ w => ⟨F, Hk, bp, ρ, S, by
    cases e : m ρ with
    | ok a => rw [e] at q; exact fun Hk2 H2 x S => w _ _ (q Hk2 H2 x S)
    | exc e' ρ => rw [e] at q; exact q
    | stuck => rw [e] at q; exact q⟩
  refine w (bP postE S1 h1) fun i H2 ⟨Hk2, ρ2, x2, S2, h2⟩ => ?_
  refine w (bP postE S2 h2) fun j H3 ⟨Hk3, ρ3, x3, S3, h3⟩ => ?_
  have h3 : okE c F Hk3 bp σ Q (match fSl x i j with | some z => .ok (z, ρ3) | none => .stuck) := h3
  cases e : fSl x i j with
  | none => rw [e] at h3; exact h3.elim
  | some z =>
    rw [e] at h3
    exact os_sl e S3.1.ex (RV.mono (x2.trans x3) _ _ r1) (fun u ru => h3 _ _ u (Ex.refl _) S3.1 ru) fun p ob hp ru => h3 _ _ _ (Ex.new (S3.1.ex.back hp)) (S3.1.new hp) ru
theorem me_sl {a : Expr} {lo hi : Option Expr} {ma : ME} {ml mh : Env → Res (Option Int × Env)} {pos p2 : Pos} (ha : PE X a (rdE c ma)) (hl : PO X lo (rdP c ml)) (hh : PO X hi (rdP c mh)) (hK : c.K = X.K := by rfl) : PE X (.Subscript a (.Slice lo hi none p2) pos) (rdE c (mSl ma ml mh)) :=
  PEw (pe_slice sl_M ha hl hh) fun _ _ _ q => by rw [← hK]; exact rd_sl q
section
variable {a b : Expr} {ma mb : ME} {pos : Pos}
theorem me_add (ha : PE X a (rdE c ma)) (hb : PE X b (rdE c mb)) (hK : c.K = X.K := by rfl) : PE X (.BinOp a .Add b pos) (rdE c (mOp fAdd ma mb)) := me_op op_addM (by rw [← hK]; exact os_add) ha hb
theorem me_mul (ha : PE X a (rdE c ma)) (hb : PE X b (rdE c mb)) (hK : c.K = X.K := by rfl) : PE X (.BinOp a .Mult b pos) (rdE c (mOp fMul ma mb)) := me_op op_mulM (by rw [← hK]; exact os_mul) ha hb
theorem me_div (ha : PE X a (rdE c ma)) (hb : PE X b (rdE c mb)) : PE X (.BinOp a .FloorDiv b pos) (rdE c (mOp fDiv ma mb)) := me_op op_divM os_div ha hb
theorem me_mod (ha : PE X a (rdE c ma)) (hb : PE X b (rdE c mb)) : PE X (.BinOp a .Mod b pos) (rdE c (mOp fMod ma mb)) := me_op op_modN os_mod ha hb
theorem me_pow (ha : PE X a (rdE c ma)) (hb : PE X b (rdE c mb)) : PE X (.BinOp a .Pow b pos) (rdE c (mOp fPow ma mb)) := me_op op_pow os_pow ha hb
end
end
end Tm
set_option Elab.async false
set_option linter.all false
set_option maxRecDepth 100000
set_option maxHeartbeats 2000000
namespace Tm
open PySem L2
open Evl (Ex ex_rd ex_l ex_t)
section
variable {X : Cx} {c : Ct}
abbrev MG := MV → Env → Option Env
def okG (c : Ct) (F Hk : Hp) (bp : List (Nat × Addr)) (Q : St → Hp → Prop) : Option Env → Prop
  | some ρ' => ∀ Hk' H' σ', Ex Hk Hk' → RS c.K F Hk' H' bp σ' ρ' → Q σ' H'
  | none => False
def rdG (c : Ct) (m : MG) : TG := fun v σ H Q => ∃ F Hk bp ρ x, At c F Hk H bp σ ρ ∧ RV c.K Hk x v ∧ okG c F Hk bp Q (m x ρ)
theorem PGw {e : Expr} {t t' : TG} (h : PG X e t) (w : ∀ v σ H Q, t' v σ H Q → t v σ H Q) : PG X e t' := ⟨fun pins s σ H v u Q I r q => h.run pins s σ H v u Q I r (w v σ H Q q)⟩
def gSet (i : Nat) : MG := fun x ρ => if i < ρ.length then some (ρ.set i (some x)) else none
theorem nb {bp : List (Nat × Addr)} {bs : List Nat} {i : Nat} (e : bp.map (·.1) = bs) (h : bs.contains i = false) : ∀ q ∈ bp, q.1 ≠ i := fun q hq z => by
  have m : i ∈ bs := by rw [← e, ← z]; exact List.mem_map.mpr ⟨q, hq, rfl⟩
  rw [List.contains_eq_mem] at h
  simp [m] at h
theorem rd_gname {i : Nat} (hb : c.bs.contains i = false) {v : V} {σ : St} {H : Hp} {Q : St → Hp → Prop} (h : rdG c (gSet i) v σ H Q) : gName i v σ H Q := by
  obtain ⟨F, Hk, bp, ρ, y, S, r, h⟩ := h
  unfold gSet at h
  split at h
  · rename_i hl
    exact h _ _ _ (Ex.refl _) (S.1.set hl r (nb S.2.1 hb))
  · exact h.elim
theorem mg_name {i : Nat} {x : Str} {pos : Pos} (hN : X.N.Nodup) (hi : X.N[i]? = some x) (hx : Loc X.env.scope x) (hb : c.bs.contains i = false := by rfl) (hf : X.fn x = true ∨ X.env.scope.names.lookup x = some .local := by first | exact .inl rfl | exact .inr rfl | assumption) : PG X (.Name x pos) (rdG c (gSet i)) :=
  PGw (pg_name hN hi hx hf) fun v σ H Q h => rd_gname hb h
def mAsg (a : ME) (g : MG) : MS := fun ρ => (a ρ).bind fun x ρ1 => match g x ρ1 with | some ρ2 => .ok (.nx, ρ2) | none => .stuck
theorem rd_asg {a : ME} {g : MG} {D : Ends} {σ : St} {H : Hp} (h : rdS c (mAsg a g) D σ H) : tAsg (rdE c a) (rdG c g) D σ H := by
  obtain ⟨F, Hk, bp, ρ, S, h⟩ := h
  refine rdw (bE (postS (σ := σ)) S h) fun v H1 ⟨Hk1, x, ρ1, x1, S1, r1, h1⟩ => ⟨F, Hk1, bp, ρ1, x, S1, r1, ?_⟩
  have h1 : okS c F Hk1 bp D (match g x ρ1 with | some ρ2 => .ok (.nx, ρ2) | none => .stuck) := h1
  cases e : g x ρ1 with
  | none => rw [e] at h1; exact h1
  | some ρ2 => rw [e] at h1; exact h1
theorem rd_set {i : Nat} (hb : c.bs.contains i = false) {a : ME} {D : Ends} {σ : St} {H : Hp} (h : rdS c (mAsg a (gSet i)) D σ H) : tAsg (rdE c a) (gName i) D σ H := rdw (rd_asg h) fun _ _ q => rd_gname hb q
theorem ms_set {i : Nat} {x : Str} {e : Expr} {a : ME} {pos pos' : Pos} (hN : X.N.Nodup) (hi : X.N[i]? = some x) (hx : Loc X.env.scope x) (he : PE X e (rdE c a)) (hb : c.bs.contains i = false := by rfl) (hs : swapsWith e (some (.Name x pos')) pos.line X.env = pure false := by rfl)
    (hf : X.fn x = true ∨ X.env.scope.names.lookup x = some .local := by first | exact .inl rfl | exact .inr rfl | assumption) : PS X (.Assign [.Name x pos'] e pos) (rdS c (mAsg a (gSet i))) := PSw (ps_set hN hi hx he hs hf) fun _ _ _ h => rd_set hb h
def mSetO (i : Nat) (a : ME) : MS := fun ρ => (a ρ).bind fun x ρ1 => if i < ρ1.length then .ok (.nx, ρ1.set i (some x)) else .stuck
theorem rd_setO {i : Nat} {a : ME} {D : Ends} {σ : St} {H : Hp} (hb : c.bs.contains i = false) (h : rdS c (mSetO i a) D σ H) : tAsg (rdO c a) (gName i) D σ H := by
  obtain ⟨F, Hk, bp, ρ, S, h⟩ := h
  refine rdOw (bO (postS (σ := σ)) S h) fun v H1 ⟨Hk1, x, ρ1, x1, S1, h1⟩ => ?_
  split at h1
  · rename_i hl
    refine h1 _ _ _ (Ex.refl _) (S1.take hl fun q hq => ⟨nb S.2.1 hb q hq, ?_⟩)
    have l1 : σ.length = ρ1.length := by have := S1.len; simpa using this
    rw [← l1]
    exact lt_get (S.1.bor q hq)
  · exact h1.elim
theorem ms_setO {i : Nat} {x : Str} {e : Expr} {a : ME} {pos pos' : Pos} (hN : X.N.Nodup) (hi : X.N[i]? = some x) (hx : Loc X.env.scope x) (he : PE X e (rdO c a)) (hb : c.bs.contains i = false := by rfl) (hs : swapsWith e (some (.Name x pos')) pos.line X.env = pure false := by rfl)
    (hf : X.fn x = true ∨ X.env.scope.names.lookup x = some .local := by first | exact .inl rfl | exact .inr rfl | assumption) : PS X (.Assign [.Name x pos'] e pos) (rdS c (mSetO i a)) := PSw (ps_set hN hi hx he hs hf) fun _ _ _ h => rd_setO hb h
def mPass : MS := fun ρ => .ok (.nx, ρ)
def mSeq (a b : MS) : MS := fun ρ => (a ρ).bind fun f ρ1 => match f with | .nx => b ρ1 | f => .ok (f, ρ1)
theorem okS.seq {F Hk : Hp} {bp : List (Nat × Addr)} {D : Ends} {b : MS} (eb : bp.map (·.1) = c.bs ∧ c.J F bp) {r : Res (Fl × Env)} (h : okS c F Hk bp D (r.bind fun f ρ1 => match f with | .nx => b ρ1 | f => .ok (f, ρ1))) : okS c F Hk bp { D with nx := rdS c b D } r := by
  cases r with
  | stuck => exact h
  | exc e ρ => exact h
  | ok q =>
    obtain ⟨f, ρ1⟩ := q
    cases f with
    | nx => exact fun Hk1 H1 σ1 x1 S1 => ⟨F, Hk1, bp, ρ1, ⟨S1, eb⟩, okS.mono x1 h⟩
    | br => exact h
    | ct => exact h
    | rt x => exact h
theorem rd_seq {a b : MS} {D : Ends} {σ : St} {H : Hp} (h : rdS c (mSeq a b) D σ H) : tSeq (rdS c a) (rdS c b) D σ H := by
  obtain ⟨F, Hk, bp, ρ, S, h⟩ := h
  exact ⟨F, Hk, bp, ρ, S, okS.seq S.2 h⟩
theorem mss_nil : PSs X [] (rdS c mPass) := PSsw pss_nil fun D σ H ⟨F, Hk, bp, ρ, S, h⟩ => h _ _ _ (Ex.refl _) S.1
theorem mss_one {st : Stmt} {a : MS} (h : PS X st (rdS c a)) : PSs X [st] (rdS c a) := pss_one h
theorem mss_cons {st : Stmt} {r : List Stmt} {a b : MS} (h : PS X st (rdS c a)) (g : PSs X r (rdS c b)) : PSs X (st :: r) (rdS c (mSeq a b)) := PSsw (pss_cons h g) fun _ _ _ q => rd_seq q
def mIfS (t : MT) (a b : MS) : MS := fun ρ => (t ρ).bind fun x ρ1 => if x then a ρ1 else b ρ1
theorem ms_if {t : Expr} {a b : List Stmt} {mt : MT} {ma mb : MS} {pos : Pos} (ht : PT X t (rdT c mt)) (ha : PSs X a (rdS c ma)) (hb : PSs X b (rdS c mb)) : PS X (.If t a b pos) (rdS c (mIfS mt ma mb)) := PSw (ps_if ht ha hb) fun D σ H ⟨F, Hk, bp, ρ, S, h⟩ => by
  refine rdTw (bT (postS (σ := σ)) S h) fun k H1 ⟨Hk1, ρ1, x1, S1, h1⟩ => ?_
  cases k with
  | true => rw [if_pos rfl] at h1 ⊢; exact ⟨F, Hk1, bp, ρ1, S1, h1⟩
  | false => rw [if_neg (by decide)] at h1 ⊢; exact ⟨F, Hk1, bp, ρ1, S1, h1⟩
def mRet (a : ME) : MS := fun ρ => (a ρ).bind fun x ρ1 => .ok (.rt x, ρ1)
theorem ms_ret {e : Expr} {a : ME} {pos : Pos} (h : PE X e (rdE c a)) : PS X (.Return (some e) pos) (rdS c (mRet a)) := PSw (ps_ret h) fun D σ H ⟨F, Hk, bp, ρ, S, h⟩ =>
  rdw (bE (postS (σ := σ)) S h) fun v H1 ⟨Hk1, x, ρ1, x1, S1, r1, h1⟩ => h1 _ _ _ _ (Ex.refl _) (fun q hq => lt_get (S.1.bor q hq)) (S1.1.push r1)
theorem ms_retO {e : Expr} {a : ME} {pos : Pos} (h : PE X e (rdO c a)) : PS X (.Return (some e) pos) (rdS c (mRet a)) := PSw (ps_ret h) fun D σ H ⟨F, Hk, bp, ρ, S, h⟩ =>
  rdOw (bO (postS (σ := σ)) S h) fun v H1 ⟨Hk1, x, ρ1, x1, S1, h1⟩ => h1 _ _ _ _ (Ex.refl _) (fun q hq => lt_get (S.1.bor q hq)) S1
def mDrop (a : ME) : MS := fun ρ => (a ρ).bind fun _ ρ1 => .ok (.nx, ρ1)
theorem ms_expr {e : Expr} {a : ME} {pos : Pos} (h : PE X e (rdE c a)) (hs : swapsWith e none pos.line X.env = pure false := by rfl) : PS X (.Expr e pos) (rdS c (mDrop a)) := PSw (ps_expr h hs) fun D σ H ⟨F, Hk, bp, ρ, S, h⟩ =>
  rdw (bE (postS (σ := σ)) S h) fun v H1 ⟨Hk1, x, ρ1, x1, S1, r1, h1⟩ => h1 _ _ _ (Ex.refl _) S1.1
def mMove (i : Nat) : ME := fun ρ => match ρ[i]? with
  | some (some (.obj _ _)) => .stuck
  | some (some x) => .ok (x, ρ.set i none)
  | _ => .stuck
theorem rd_move {i : Nat} (hb : c.bs.contains i = false) {σ : St} {H : Hp} {Q : VK} (h : rdO c (mMove i) σ H Q) : tVar i σ H Q := by
  obtain ⟨F, Hk, bp, ρ, S, h⟩ := h
  unfold mMove at h
  split at h
  · exact h.elim
  · rename_i x n hx
    obtain ⟨ow, s⟩ := S.1.ow
    obtain ⟨v, ev, ov⟩ := s.s i x hx
    have li := lt_get hx
    refine ⟨v, ev, h Hk H v (Ex.refl _) ?_⟩
    refine ⟨by simp [S.1.len], S.1.ex, S.1.fr, S.1.frk, ⟨put (put ow i []) ρ.length (ow i), ?_⟩, S.1.bor_app _⟩
    have nl : i ≠ ρ.length := Nat.ne_of_lt li
    have mem : ∀ j a, a ∈ put (put ow i []) ρ.length (ow i) j → (j = ρ.length ∧ a ∈ ow i) ∨ (j ≠ i ∧ j < ρ.length ∧ a ∈ ow j) := fun j a h => by
      by_cases e : j = ρ.length
      · rw [e, put_same] at h; exact .inl ⟨e, h⟩
      · rw [put_ne e] at h
        by_cases e2 : j = i
        · rw [e2, put_same] at h; cases h
        · rw [put_ne e2] at h
          exact .inr ⟨e2, s.w j (by intro z; rw [z] at h; cases h), h⟩
    refine ⟨fun j y hj => ?_, fun j a hj => ?_, fun j hj => ?_, fun j k a hjk hj hk => ?_⟩
    · rcases app_get hj with ⟨e1, e2⟩ | ⟨lt, e2⟩
      · cases e2
        rw [List.length_set] at e1
        refine ⟨v, by rw [e1, ← S.1.len]; simp, ?_⟩
        rw [e1, put_same]; exact ov
      · rcases set_get e2 with ⟨_, e3⟩ | ⟨ne, e3⟩
        · cases e3
        · obtain ⟨w, w1, w2⟩ := s.s j y e3
          have lj := lt_get e3
          exact ⟨w, by rw [List.getElem?_append_left (by rw [S.1.len]; exact lj)]; exact w1, by rw [put_ne (Nat.ne_of_lt lj), put_ne ne]; exact w2⟩
    · rcases mem j a hj with ⟨_, m⟩ | ⟨_, _, m⟩
      · exact s.f i a m
      · exact s.f j a m
    · cases e : put (put ow i []) ρ.length (ow i) j with
      | nil => exact (hj e).elim
      | cons a r =>
        rcases mem j a (by rw [e]; simp) with ⟨e, _⟩ | ⟨_, l, _⟩
        · rw [e]; simp
        · simp; omega
    · rcases mem j a hj with ⟨e1, m⟩ | ⟨e1, l1, m⟩ <;> rcases mem k a hk with ⟨e2, m2⟩ | ⟨e2, l2, m2⟩
      · exact hjk (e1.trans e2.symm)
      · exact s.d i k a (Ne.symm e2) m m2
      · exact s.d j i a e1 m m2
      · exact s.d j k a hjk m m2
  · exact h.elim
theorem mo_var {i : Nat} {x : Str} {pos : Pos} (hN : X.N[i]? = some x) (hv : Vis X.env.scope x) (hb : c.bs.contains i = false := by rfl) (hd : (x == ("__debug__" : Str)) = false := by decide) (hcd : (x == ("__classdict__" : Str)) = false := by decide) : PE X (.Name x pos) (rdO c (mMove i)) :=
  PEw (pe_var hN hv hd hcd) fun _ _ _ h => rd_move hb h
end
end Tm
set_option Elab.async false
set_option linter.all false
set_option maxRecDepth 100000
set_option maxHeartbeats 2000000
namespace Tm
open PySem L2 PySem.Spec PyProof.Rows
structure ZSrc (P : Program) (w : World) (K : PySem.W.Frag) (it : Addr) (fp : List Addr) (S : Hp → List V → Prop) (tn : Nat → Heap → Prop) : Prop where
  obj : ∀ i h, tn i h → ∃ o, h.get? it = some o ∧ ∀ v, o.data ≠ .cell v
  keep : ∀ i h h', tn i h → (∀ o, h.get? it = some o → h'.get? it = some o) → tn i h'
  inj : ∀ (X : Cx), X.K = K → ∀ pins (s : Shared) σ H xs ys, Inv X pins σ H s → S H xs → S H ys → xs = ys
  draw : ∀ (X : Cx), X.prog = P → X.w = w → X.K = K → X.calm = true → ∀ pins (s : Shared) σ H xs i, Inv X pins σ H s → S H xs → tn i s.heap →
    ∃ (Y : Nat → Value → Prop) (St : Nat → Heap → Prop), Draws P w X.A.in1 it fp xs.length Y St ∧ St i s.heap ∧ (∀ j u, Y j u → ∃ x, xs[j]? = some x ∧ RelV x u) ∧ ∀ j h, St j h → tn j h
end Tm
set_option Elab.async false
set_option linter.all false
set_option maxRecDepth 100000
set_option maxHeartbeats 2000000
namespace Tm
open PySem L2
open Evl (Ex ex_rd ex_l ex_t)
structure Walks (K : PySem.W.Frag) (Hk : Hp) (J : It) (items : List MV) : Prop where
  go : ∀ i H, Ex Hk H → i < items.length → J.go i H
  stop : ∀ H, Ex Hk H → J.stop items.length H
  yld : ∀ i H x H', Ex Hk H → i < items.length → J.yld i H x H' → ∃ y, items[i]? = some y ∧ ((H' = H ∧ RV K Hk y x) ∨ ∃ p vs ys, H p = none ∧ H' = upd H p (.tup vs) ∧ x = .ref p ∧ y = .tup ys ∧ RVs K Hk ys vs)
abbrev MI := Env → Res (List MV × Env)
def okI (c : Ct) (F Hk : Hp) (bp : List (Nat × Addr)) (σ : St) (R : It → Hp → Prop) : Res (List MV × Env) → Prop
  | .ok (xs, ρ') => ∀ Hk' H' J, Ex Hk Hk' → RS c.K F Hk' H' bp σ ρ' → Walks c.K Hk' J xs → R J H'
  | .exc e ρ' => Wish c F Hk bp σ e ρ'
  | .stuck => False
theorem okI.mono {c : Ct} {F Hk Hk' : Hp} {bp : List (Nat × Addr)} {σ : St} {Q : It → Hp → Prop} {r : Res (List MV × Env)} (x : Ex Hk Hk') (h : okI c F Hk bp σ Q r) : okI c F Hk' bp σ Q r := by
  cases r with
  | ok a => exact fun Hk2 H2 v x2 => h Hk2 H2 v (x.trans x2)
  | exc e ρ => exact Wish.mono x h
  | stuck => exact h
theorem postI {c : Ct} {F : Hp} {bp : List (Nat × Addr)} {σ : St} {R : It → Hp → Prop} : Post c F bp σ fun Hk r => okI c F Hk bp σ R r := ⟨fun _ _ _ h => h, fun _ h => h, fun _ _ _ x h => okI.mono x h⟩
def rdI (c : Ct) (m : MI) : TI := fun σ H R => ∃ F Hk bp ρ, At c F Hk H bp σ ρ ∧ okI c F Hk bp σ R (m ρ)
theorem PIw {X : Cx} {tg e : Expr} {t t' : TI} (h : PI X tg e t) (w : ∀ σ H R, t' σ H R → t σ H R) : PI X tg e t' := ⟨fun pins s σ H R I q => h.run pins s σ H R I (w σ H R q)⟩
theorem walks_l {K : PySem.W.Frag} {Hk : Hp} {a : Addr} {xs : List MV} {vs : List V} (h : SqL K Hk a vs) (r : RVs K Hk xs vs) : Walks K Hk (Itl K a) xs := by
  refine ⟨fun i H e hi => ?_, fun H e => ⟨vs, ex_l e h, by rw [r.length]; exact Nat.le_refl _⟩, fun i H x H' e hi y => ?_⟩
  · obtain ⟨v, hv, _⟩ := r.get (i := i) (x := xs[i]) (by simp [hi])
    exact ⟨vs, v, ex_l e h, hv⟩
  · obtain ⟨v, hv, rv⟩ := r.get (i := i) (x := xs[i]) (by simp [hi])
    obtain ⟨e1, y⟩ := y
    have := y vs (ex_l e h)
    rw [hv] at this
    cases this
    exact ⟨xs[i], by simp [hi], .inl ⟨e1, rv⟩⟩
theorem walks_t {K : PySem.W.Frag} {Hk : Hp} {a : Addr} {xs : List MV} {vs : List V} (h : SqT K Hk a vs) (r : RVs K Hk xs vs) : Walks K Hk (Itt K a) xs := by
  refine ⟨fun i H e hi => ?_, fun H e => ⟨vs, ex_t e h, by rw [r.length]; exact Nat.le_refl _⟩, fun i H x H' e hi y => ?_⟩
  · obtain ⟨v, hv, _⟩ := r.get (i := i) (x := xs[i]) (by simp [hi])
    exact ⟨vs, v, ex_t e h, hv⟩
  · obtain ⟨v, hv, rv⟩ := r.get (i := i) (x := xs[i]) (by simp [hi])
    obtain ⟨e1, y⟩ := y
    have := y vs (ex_t e h)
    rw [hv] at this
    cases this
    exact ⟨xs[i], by simp [hi], .inl ⟨e1, rv⟩⟩
def rngM (lo c : Int) (n : Nat) : List MV := (List.range n).map fun i => .int (lo + (i : Nat) * c)
theorem rngM_get {lo c : Int} {n i : Nat} (h : i < n) : (rngM lo c n)[i]? = some (.int (lo + (i : Nat) * c)) := by
  unfold rngM
  rw [List.getElem?_map, List.getElem?_range h]; rfl
theorem rngM_len {lo c : Int} {n : Nat} : (rngM lo c n).length = n := by simp [rngM]
theorem walks_r {K : PySem.W.Frag} {Hk : Hp} {lo : Int} {n : Nat} : Walks K Hk (Itr lo n) (rngM lo 1 n) := by
  refine ⟨fun i H e hi => by rw [rngM_len] at hi; exact hi, fun H e => by rw [rngM_len]; exact Nat.le_refl n, fun i H x H' e hi y => ?_⟩
  rw [rngM_len] at hi
  obtain ⟨e1, e2⟩ := y
  exact ⟨_, rngM_get hi, .inl ⟨e1, by rw [e2, Int.mul_one]; exact RV.int.mpr rfl⟩⟩
def signsM (z : Str) : List MV := z.cps.toList.map fun c => .str ⟨#[c]⟩
theorem walks_s {K : PySem.W.Frag} {Hk : Hp} {z : Str} : Walks K Hk (Its z) (signsM z) := by
  have l : (signsM z).length = z.cps.size := by simp [signsM]
  refine ⟨fun i H e hi => by rw [l] at hi; exact hi, fun H e => by rw [l]; exact Nat.le_refl _, fun i H x H' e hi y => ?_⟩
  obtain ⟨e1, ch, e2, e3⟩ := y
  refine ⟨.str ⟨#[ch]⟩, ?_, .inl ⟨e1, by rw [e3]; exact RV.str.mpr rfl⟩⟩
  unfold signsM
  rw [List.getElem?_map, Array.getElem?_toList, e2]; rfl
section
variable {X : Cx} {c : Ct} {tg : Expr}
def itemsOf : MV → Option (List MV)
  | .lst xs => some xs
  | .tup xs => some xs
  | .scr ns => some (ns.map .int)
  | .str z => some (signsM z)
  | _ => none
def mItV (a : ME) : MI := fun ρ => (a ρ).bind fun x ρ1 => match itemsOf x with | some xs => .ok (xs, ρ1) | none => .stuck
theorem mi_val {e : Expr} {a : ME} (h : PE X e (rdE c a)) (hK : c.K = X.K := by rfl) : PI X tg e (rdI c (mItV a)) := by
  refine ⟨fun pins s σ H R I q => ?_⟩
  obtain ⟨F, Hk, bp, ρ, S, q⟩ := q
  cases ea : a ρ with
  | stuck => unfold mItV at q; rw [ea] at q; exact q.elim
  | exc x ρ1 =>
    have z : rdE c a σ H fun _ _ => False := ⟨F, Hk, bp, ρ, S, by
      unfold mItV at q; rw [ea] at q ⊢; exact q⟩
    exact (pi_str h).run pins s σ H R I (rdw z fun _ _ f => f.elim)
  | ok p =>
    obtain ⟨x, ρ1⟩ := p
    have q' : okI c F Hk bp σ R (match itemsOf x with | some xs => .ok (xs, ρ1) | none => .stuck) := by unfold mItV at q; rw [ea] at q; exact q
    have ok : ∀ Q : VK, (∀ Hk' H' v, Ex Hk Hk' → RS c.K F Hk' H' bp σ ρ1 → RV c.K Hk' x v → Q v H') → rdE c a σ H Q := fun Q k => ⟨F, Hk, bp, ρ, S, by rw [ea]; exact k⟩
    cases x with
    | lst xs =>
      refine (pi_list h).run pins s σ H R I (ok _ fun Hk1 H1 v x1 S1 r1 => ?_)
      obtain ⟨p, vs, rfl, h1, s1⟩ := RV.lst.mp r1
      refine ⟨p, rfl, ⟨vs, SqL.of (S1.ex _ _ h1)⟩, ?_⟩
      rw [← hK]
      exact q' Hk1 H1 _ x1 S1 (walks_l (SqL.of h1) s1)
    | tup xs =>
      refine (pi_tup h).run pins s σ H R I (ok _ fun Hk1 H1 v x1 S1 r1 => ?_)
      obtain ⟨p, vs, rfl, h1, s1⟩ := RV.tup.mp r1
      refine ⟨p, rfl, ⟨vs, by rw [← hK]; exact ex_t S1.ex h1⟩, ?_⟩
      rw [← hK]
      exact q' Hk1 H1 _ x1 S1 (walks_t h1 s1)
    | scr ns =>
      refine (pi_list h).run pins s σ H R I (ok _ fun Hk1 H1 v x1 S1 r1 => ?_)
      obtain ⟨p, rfl, h1⟩ := RV.scr.mp r1
      refine ⟨p, rfl, ⟨_, by rw [← hK]; exact ex_l S1.ex h1⟩, ?_⟩
      rw [← hK]
      exact q' Hk1 H1 _ x1 S1 (walks_l h1 (RVs.ints.mpr rfl))
    | str z =>
      refine (pi_str h).run pins s σ H R I (ok _ fun Hk1 H1 v x1 S1 r1 => ?_)
      exact ⟨z, RV.str.mp r1, q' Hk1 H1 _ x1 S1 walks_s⟩
    | _ => exact q'.elim
def inR (i : Int) : Bool := decide (-(2 ^ 62) ≤ i) && decide (i < 2 ^ 62)
theorem inR_iff {i : Int} : inR i = true ↔ -(2 ^ 62) ≤ i ∧ i < 2 ^ 62 := by unfold inR; simp
def mR1 (a : MA) : MI := fun ρ => (a ρ).bind fun xs ρ1 => match xs with
  | [.int j] => if inR j then .ok (rngM 0 1 j.toNat, ρ1) else .stuck
  | _ => .stuck
theorem rvs_int1 {K : PySem.W.Frag} {H : Hp} {i : Int} {vs : List V} (r : RVs K H [.int i] vs) : vs = [.int i] := (RVs.ints (ns := [i])).mp r
theorem mi_r1 {a : Expr} {m : MA} {p pos : Pos} (hm : X.mg "range" = none) (ha : PA X [a] (rdA c m)) (hg : Gl X "range" := by rfl) (hs : starEach [a] X.env = [(false, eval a X.env)] := by rfl) : PI X tg (.Call (.Name "range" p) [a] [] pos) (rdI c (mR1 m)) :=
  PIw (pi_range1 hg hm ha hs) fun σ H R ⟨F, Hk, bp, ρ, S, h⟩ => rdAw (bA postI S h) fun vs H1 ⟨Hk1, xs, ρ1, x1, S1, r1, h1⟩ => by
    split at h1
    · rename_i j
      split at h1
      · rename_i hj
        have := inR_iff.mp hj
        exact ⟨j, rvs_int1 r1, this.1, this.2, h1 _ _ _ (Ex.refl _) S1.1 walks_r⟩
      · exact h1.elim
    · exact h1.elim
def mLoop (g : MG) (b : MS) : List MV → Env → Res (Fl × Env)
  | [], ρ => .ok (.nx, ρ)
  | x :: xs, ρ => match g x ρ with
    | none => .stuck
    | some ρ1 => (b ρ1).bind fun f ρ2 => match f with
      | .nx => mLoop g b xs ρ2
      | .ct => mLoop g b xs ρ2
      | .br => .ok (.nx, ρ2)
      | .rt v => .ok (.rt v, ρ2)
def mFor (i : MI) (g : MG) (b : MS) : MS := fun ρ => (i ρ).bind fun xs ρ1 => mLoop g b xs ρ1
theorem okS.loop {F Hk : Hp} {bp : List (Nat × Addr)} {D : Ends} {g : MG} {b : MS} {xs : List MV} {N : St → Hp → Prop} (hN : ∀ Hk' H' σ' ρ', Ex Hk Hk' → RS c.K F Hk' H' bp σ' ρ' → okS c F Hk' bp D (mLoop g b xs ρ') → N σ' H') {r : Res (Fl × Env)}
    (h : okS c F Hk bp D (r.bind fun f ρ2 => match f with | .nx => mLoop g b xs ρ2 | .ct => mLoop g b xs ρ2 | .br => .ok (.nx, ρ2) | .rt v => .ok (.rt v, ρ2))) : okS c F Hk bp { D with nx := N, ct := N, bk := D.nx } r := by
  cases r with
  | stuck => exact h
  | exc e ρ => exact h
  | ok q =>
    obtain ⟨f, ρ1⟩ := q
    cases f with
    | nx => exact fun Hk1 H1 σ1 x1 S1 => hN Hk1 H1 σ1 ρ1 x1 S1 (okS.mono x1 h)
    | ct => exact fun Hk1 H1 σ1 x1 S1 => hN Hk1 H1 σ1 ρ1 x1 S1 (okS.mono x1 h)
    | br => exact h
    | rt x => exact h
theorem rd_for {it : MI} {g : MG} {b : MS} {D : Ends} {σ : St} {H : Hp} (h : rdS c (mFor it g b) D σ H) : tFor (rdI c it) (rdG c g) (rdS c b) D σ H := by
  obtain ⟨F, Hk, bp, ρ, S, h⟩ := h
  refine ⟨F, Hk, bp, ρ, S, ?_⟩
  have h : okS c F Hk bp D ((it ρ).bind fun xs ρ1 => mLoop g b xs ρ1) := h
  cases e : it ρ with
  | stuck => rw [e] at h; exact h
  | exc x ρ' => rw [e] at h; exact fun Hk1 H1 cls d => h Hk1 H1 σ cls d
  | ok p =>
    obtain ⟨xs, ρ1⟩ := p
    rw [e] at h
    intro Hk1 H1 J x1 S1 wk
    have h : okS c F Hk1 bp D (mLoop g b xs ρ1) := okS.mono x1 h
    refine ⟨fun i m σ' H' => m = xs.length - i ∧ i ≤ xs.length ∧ ∃ Hk' ρ', Ex Hk1 Hk' ∧ At c F Hk' H' bp σ' ρ' ∧ okS c F Hk' bp D (mLoop g b (xs.drop i) ρ'), ⟨xs.length, by simp, Nat.zero_le _, Hk1, ρ1, Ex.refl _, ⟨S1, S.2⟩, h⟩, ?_⟩
    rintro i m σ' H' ⟨rfl, hi, Hk', ρ', x', S', h'⟩
    by_cases hlt : i < xs.length
    · refine .inr ⟨wk.go i H' (x'.trans S'.1.ex) hlt, fun σ2 H2 => ∃ Hk2 ρ2, Ex Hk1 Hk2 ∧ At c F Hk2 H2 bp σ2 ρ2 ∧ okS c F Hk2 bp D (mLoop g b (xs.drop (i + 1)) ρ2), fun σ2 H2 ⟨Hk2, ρ2, x2, S2, h2⟩ => ⟨xs.length - (i + 1), by omega, rfl, hlt, Hk2, ρ2, x2, S2, h2⟩, fun x H2 y => ?_⟩
      obtain ⟨z, ez, hz⟩ := wk.yld i H' x H2 (x'.trans S'.1.ex) hlt y
      have ed : xs.drop i = z :: xs.drop (i + 1) := by
        rw [List.drop_eq_getElem_cons hlt]
        rw [List.getElem?_eq_getElem hlt] at ez
        cases ez; rfl
      rw [ed] at h'
      have fin : ∀ Hk3, Ex Hk' Hk3 → At c F Hk3 H2 bp σ' ρ' → RV c.K Hk3 z x → rdG c g x σ' H2 fun σ2 H2 => rdS c b { D with nx := fun σ2 H2 => ∃ Hk2 ρ2, Ex Hk1 Hk2 ∧ At c F Hk2 H2 bp σ2 ρ2 ∧ okS c F Hk2 bp D (mLoop g b (xs.drop (i + 1)) ρ2), ct := fun σ2 H2 => ∃ Hk2 ρ2, Ex Hk1 Hk2 ∧ At c F Hk2 H2 bp σ2 ρ2 ∧ okS c F Hk2 bp D (mLoop g b (xs.drop (i + 1)) ρ2), bk := D.nx } σ2 H2 := fun Hk3 x3 S3 r3 => by
        refine ⟨F, Hk3, bp, ρ', z, S3, r3, ?_⟩
        have h' := okS.mono x3 h'
        unfold mLoop at h'
        cases eg : g z ρ' with
        | none => rw [eg] at h'; exact h'
        | some ρ3 =>
          rw [eg] at h'
          intro Hk4 H4 σ4 x4 S4
          refine ⟨F, Hk4, bp, ρ3, ⟨S4, S.2⟩, okS.loop (fun Hk5 H5 σ5 ρ5 x5 S5 h5 => ⟨Hk5, ρ5, x'.trans (x3.trans (x4.trans x5)), ⟨S5, S.2⟩, h5⟩) (okS.mono x4 h')⟩
      rcases hz with ⟨rfl, r⟩ | ⟨p, vs, ys, hp, rfl, rfl, rfl, r⟩
      · exact fin Hk' (Ex.refl _) S' (RV.mono x' _ _ r)
      · have xn := Ex.new (o := .tup vs) (S'.1.ex.back hp)
        exact fin _ xn ⟨S'.1.new hp, S.2⟩ (RV.tup.mpr ⟨p, vs, rfl, SqT.of upd_same, r.mono (x'.trans xn)⟩)
    · have e : i = xs.length := by omega
      subst e
      rw [List.drop_length] at h'
      exact .inl ⟨wk.stop H' (x'.trans S'.1.ex), h' _ _ _ (Ex.refl _) S'.1⟩
theorem ms_for {iter : Expr} {body : List Stmt} {it : MI} {g : MG} {b : MS} {pos : Pos} (hp : PassesOwn (model X.prog X.w) X.A X.env X.xe) (hc : X.calm = true) (hi : PI X tg iter (rdI c it)) (hg : PG X tg (rdG c g)) (hb : PSs X body (rdS c b))
    (hs : ∀ x, foldedSetIterable iter X.env x = pure x := by intro _; rfl) : PS X (.For tg iter body [] pos) (rdS c (mFor it g b)) := PSw (ps_for hp hc hi hg hb hs) fun _ _ _ h => rd_for h
end
end Tm
set_option Elab.async false
set_option linter.all false
set_option maxRecDepth 100000
set_option maxHeartbeats 2000000
namespace Tm
open PySem L2
open Evl (Ex ex_rd ex_l ex_t)
theorem okXN {P : Program} {w : World} {K : PySem.W.Frag} {mg : Str → Option Value} {base : Heap} {x qual : Str} {st : Stmt} {f : Addr} {fd : FuncData} {N ps : List Str} {k : Nat} {sp : Sp} (F : Fun K x qual st f fd) (S : FnScope N ps (defScope st)) (hl : ∀ vs H Q E, sp vs H Q E → vs.length = ps.length)
    (b : ∀ (cdv : Value) (A : Around) (outer : List PySem.Env) (s : Shared) (H : Hp) (vs : List V) (Q : VK) (E : XK), Room k (A.deeper (PyProof.Rows.envOfC qual (defScope st) s.heap.objs.size f cdv)) → sp vs H Q E →
      ∃ t, PSs (cxOf (L2N.CX P w) P w K mg base N qual (defScope st) f cdv A outer s H E) (defBody st) t ∧ t { nx := fun _ H' => Q .non H', rt := Q } (L2.start N vs) H) : FnOk P w K mg base (L2N.CX P w) (k + 1) f fd ps sp := by
  obtain ⟨_, _, _, _, _, _, cv, _, _, rfl, e, hc⟩ := F.ex
  exact fn_of e hc S hl fun A outer s H vs Q E hr h => b cv A outer s H vs Q E hr h
abbrev MF := List MV → Res (MV × Env)
def endOf (bs : List Nat) (ρ : Env) : Env := bs.map fun i => (ρ[i]?).join
def mFn (n : Nat) (bs : List Nat) (m : MS) : MF := fun xs => match m (xs.map some ++ List.replicate (n - xs.length) none) with
  | .ok (.rt v, ρ) => .ok (v, endOf bs ρ)
  | .ok (.nx, ρ) => .ok (.non, endOf bs ρ)
  | .exc e ρ => .exc e (endOf bs ρ)
  | _ => .stuck
def okF (K : PySem.W.Frag) (mg : Str → Option Value) (F Hk : Hp) (bσ : St) (Q : VK) (E : XK) : Res (MV × Env) → Prop
  | .ok (v, bs) => ∀ Hk' H' w, Ex Hk Hk' → RS K F Hk' H' [] (bσ ++ [some w]) (bs ++ [some v]) → Q w H'
  | .exc e bs => ∀ Hk' H' cls d, Ex Hk Hk' → RS K F Hk' H' [] bσ bs → ExR K mg Hk' e cls d → E cls d H'
  | .stuck => False
def spF (K : PySem.W.Frag) (mg : Str → Option Value) (np : Nat) (bs : List Nat) (f : MF) : Sp := fun vs H Q E => vs.length = np ∧ ∃ F Hk bp xs, RS K F Hk H bp (vs.map some) (xs.map some) ∧ bp.map (·.1) = bs ∧ okF K mg F Hk (bp.map fun q => some (.ref q.2)) Q E (f xs)
section
variable {K : PySem.W.Frag} {F Hk H : Hp} {bp : List (Nat × Addr)} {σ : St} {ρ : Env}
theorem RS.pick (S : RS K F Hk H bp (σ ++ [some v]) (ρ ++ [some x])) (is : List Nat) (nd : is.Nodup) (hl : ∀ i ∈ is, i < ρ.length) :
    RS K F Hk H [] ((is.map fun i => (σ[i]?).join) ++ [some v]) ((is.map fun i => (ρ[i]?).join) ++ [some x]) := by
  obtain ⟨ow, s⟩ := S.ow
  have hlen : σ.length = ρ.length := by have := S.len; simpa using this
  have old : ∀ {j i : Nat}, is[j]? = some i → i < ρ.length := fun h => hl _ (List.mem_of_getElem? h)
  refine ⟨by simp, S.ex, S.fr, S.frk, ⟨fun j => match is[j]? with | some i => ow i | none => if j = is.length then ow ρ.length else [], ?_⟩, fun q hq => nomatch hq⟩
  have own : ∀ j a, a ∈ (match is[j]? with | some i => ow i | none => if j = is.length then ow ρ.length else []) → (∃ i, is[j]? = some i ∧ a ∈ ow i) ∨ (j = is.length ∧ a ∈ ow ρ.length) := fun j a h => by
    cases e : is[j]? with
    | some i => rw [e] at h; exact .inl ⟨i, rfl, h⟩
    | none =>
      rw [e] at h
      by_cases e2 : j = is.length
      · rw [if_pos e2] at h; exact .inr ⟨e2, h⟩
      · rw [if_neg e2] at h; cases h
  refine ⟨fun j y h => ?_, fun j a h => ?_, fun j h => ?_, fun j k a hjk h1 h2 => ?_⟩
  · rcases app_get h with ⟨e1, e2⟩ | ⟨lt, e2⟩
    · cases e2
      rw [List.length_map] at e1
      subst e1
      obtain ⟨u, hu, ou⟩ := s.s ρ.length x (by simp)
      have ev : u = v := by rw [← hlen] at hu; simpa using hu.symm
      subst ev
      refine ⟨u, by simp, ?_⟩
      have : is[is.length]? = none := by simp
      rw [this, if_pos rfl]
      exact ou
    · rw [List.length_map] at lt
      rw [List.getElem?_map] at e2
      cases ei : is[j]? with
      | none => rw [ei] at e2; cases e2
      | some i =>
        rw [ei] at e2
        have e3 : ρ[i]? = some (some y) := by
          cases er : ρ[i]? with
          | none => rw [Option.map_some, er] at e2; cases e2
          | some o => rw [Option.map_some, er] at e2; cases o with
            | none => cases e2
            | some z => cases e2; rfl
        have li := old ei
        obtain ⟨w, w1, w2⟩ := s.s i y (by rw [List.getElem?_append_left li]; exact e3)
        rw [List.getElem?_append_left (by rw [hlen]; exact li)] at w1
        refine ⟨w, ?_, w2⟩
        rw [List.getElem?_append_left (by simpa using lt), List.getElem?_map, ei, Option.map_some, w1]; rfl
  · rcases own j a h with ⟨i, _, m⟩ | ⟨_, m⟩
    · exact s.f i a m
    · exact s.f _ a m
  · cases e : (match is[j]? with | some i => ow i | none => if j = is.length then ow ρ.length else []) with
    | nil => exact (h e).elim
    | cons a r =>
      rcases own j a (by rw [e]; simp) with ⟨i, ei, _⟩ | ⟨e2, _⟩
      · have := lt_get ei; simp; omega
      · simp; omega
  · rcases own j a h1 with ⟨i, ei, m⟩ | ⟨e1, m⟩ <;> rcases own k a h2 with ⟨i2, ei2, m2⟩ | ⟨e2, m2⟩
    · have ne : i ≠ i2 := fun z => by
        subst z
        obtain ⟨a1, a2⟩ := List.getElem?_eq_some_iff.mp ei
        obtain ⟨b1, b2⟩ := List.getElem?_eq_some_iff.mp ei2
        exact hjk ((List.getElem_inj nd).mp (a2.trans b2.symm))
      exact s.d i i2 a ne m m2
    · exact s.d i ρ.length a (Nat.ne_of_lt (old ei)) m m2
    · exact s.d i2 ρ.length a (Nat.ne_of_lt (old ei2)) m2 m
    · exact hjk (e1.trans e2.symm)
theorem RS.pad (S : RS K F Hk H bp σ ρ) (n : Nat) : RS K F Hk H bp (σ ++ List.replicate n none) (ρ ++ List.replicate n none) := by
  obtain ⟨ow, s⟩ := S.ow
  have g : ∀ {α : Type} {l : List (Option α)} {j : Nat} {y : α}, (l ++ List.replicate n none)[j]? = some (some y) → l[j]? = some (some y) := fun {α l j y} h => by
    by_cases e : j < l.length
    · rw [List.getElem?_append_left e] at h; exact h
    · rw [List.getElem?_append_right (Nat.le_of_not_lt e), List.getElem?_replicate] at h
      split at h <;> cases h
  have g2 : ∀ {α : Type} {l : List (Option α)} {j : Nat} {y : α}, l[j]? = some (some y) → (l ++ List.replicate n none)[j]? = some (some y) := fun {α l j y} h => by
    rw [List.getElem?_append_left (lt_get h)]; exact h
  refine ⟨by simp [S.len], S.ex, S.fr, S.frk, ⟨ow, fun j y h => ?_, s.f, fun j h => ?_, s.d⟩, fun q hq => g2 (S.bor q hq)⟩
  · obtain ⟨v, e, o⟩ := s.s j y (g h)
    exact ⟨v, g2 e, o⟩
  · have := s.w j h; simp; omega
theorem RS.args {xs : List MV} {vs : List V} (ex : Ex Hk H) (fr : Ex F H) (frk : ∀ a o, F a = some o → Hk a = none) (r : RVs K Hk xs vs) : RS K F Hk H [] (vs.map some) (xs.map some) := by
  refine ⟨by simp [r.length], ex, fr, frk, ⟨fun _ => [], fun j y h => ?_, fun j a h => (nomatch h), fun j h => (h rfl).elim, fun j k a _ h => nomatch h⟩, fun q hq => nomatch hq⟩
  rw [List.getElem?_map] at h
  cases e : xs[j]? with
  | none => rw [e] at h; cases h
  | some z =>
    rw [e] at h
    cases h
    obtain ⟨v, e1, rv⟩ := r.get e
    exact ⟨v, by rw [List.getElem?_map, e1]; rfl, rv.ov⟩
end
section
variable {X : Cx} {c : Ct}
def fz : MV → Option MV
  | .own xs => some (.lst xs)
  | .obj _ _ => none
  | .dow ks xs => some (.dct ks xs)
  | .dot _ _ => none
  | x => some x
def mFz (m : ME) : ME := fun ρ => (m ρ).bind fun x ρ1 => match fz x with | some y => .ok (y, ρ1) | none => .stuck
section
variable {K : PySem.W.Frag} {F Hk H : Hp} {bp : List (Nat × Addr)} {σ : L2.St} {ρ : Env}
theorem RS.freezeD (S : RS K F Hk H bp σ ρ) {i : Nat} {ks : List Key} {xs : List MV} (h : ρ[i]? = some (some (.dow ks xs))) :
    ∃ p vs, σ[i]? = some (some (.ref p)) ∧ Ex Hk (upd Hk p (.dK (ks.zip vs))) ∧ RV K (upd Hk p (.dK (ks.zip vs))) (.dct ks xs) (.ref p) ∧ RS K F (upd Hk p (.dK (ks.zip vs))) H bp σ (ρ.set i (some (.dct ks xs))) := by
  obtain ⟨ow, s⟩ := S.ow
  obtain ⟨v, ev, o⟩ := s.s i _ h
  obtain ⟨p, vs, e1, e2, e3, el, e4⟩ := (show ∃ p vs, v = .ref p ∧ ow i = [p] ∧ H p = some (.dK (ks.zip vs)) ∧ ks.length = xs.length ∧ RVs K Hk xs vs from by unfold OV OF at o; exact o)
  have m : p ∈ ow i := by rw [e2]; simp
  obtain ⟨f1, f2, _⟩ := s.f i p m
  have ex : Ex Hk (upd Hk p (.dK (ks.zip vs))) := Ex.new f1
  have rv : RV K (upd Hk p (.dK (ks.zip vs))) (.dct ks xs) (.ref p) := RV.dct.mpr ⟨p, vs, rfl, upd_same, el, e4.mono ex⟩
  have li := lt_get h
  refine ⟨p, vs, by rw [ev, e1], ex, rv, by simp [S.len], S.ex.updL e3, S.fr, fun a u ha => ?_, ⟨put ow i [], ?_⟩, S.bor⟩
  · rw [upd_ne (ne_of_none ha f2)]; exact S.frk a u ha
  · refine ⟨fun j y hj => ?_, fun j a hj => ?_, fun j hj => ?_, fun j k a hjk hj => ?_⟩
    · rcases set_get hj with ⟨rfl, e⟩ | ⟨ne, e⟩
      · cases e
        exact ⟨v, ev, by rw [put_same, e1]; exact rv.ov⟩
      · obtain ⟨u, u1, u2⟩ := s.s j y e
        exact ⟨u, u1, by rw [put_ne ne]; exact u2.move ex fun _ _ _ z => z⟩
    · by_cases e : j = i
      · rw [e, put_same] at hj; cases hj
      · rw [put_ne e] at hj
        obtain ⟨g1, g2⟩ := s.f j a hj
        refine ⟨?_, g2⟩
        rw [upd_ne (fun z => s.d j i a e hj (by rw [z]; exact m))]; exact g1
    · by_cases e : j = i
      · rw [e, put_same] at hj; exact (hj rfl).elim
      · rw [put_ne e] at hj; rw [List.length_set]; exact s.w j hj
    · by_cases e : j = i
      · rw [e, put_same] at hj; cases hj
      · rw [put_ne e] at hj
        by_cases e2 : k = i
        · rw [e2, put_same]; simp
        · rw [put_ne e2]; exact s.d j k a hjk hj
end
theorem RS.last {K : PySem.W.Frag} {F Hk H : Hp} {bp : List (Nat × Addr)} {σ : St} {ρ : Env} {v : V} {x y : MV} (S : RS K F Hk H bp (σ ++ [some v]) (ρ ++ [some x])) (hb : ∀ q ∈ bp, q.1 < ρ.length) (e : fz x = some y) :
    ∃ Hk', Ex Hk Hk' ∧ RS K F Hk' H bp σ ρ ∧ RV K Hk' y v := by
  have hl : σ.length = ρ.length := by have := S.len; simpa using this
  have pl : x.per = true → y = x → ∃ Hk', Ex Hk Hk' ∧ RS K F Hk' H bp σ ρ ∧ RV K Hk' y v := fun px ey => by
    subst ey
    obtain ⟨w, ew, rw'⟩ := S.get (i := ρ.length) (x := y) (by simp) px
    rw [← hl] at ew
    have : w = v := by simpa using ew.symm
    subst this
    exact ⟨Hk, Ex.refl _, S.drop hb, rw'⟩
  cases x with
  | own xs =>
    cases e
    obtain ⟨p, vs, e1, ex, r, S'⟩ := S.freeze (i := ρ.length) (xs := xs) (by simp)
    rw [← hl] at e1
    have : v = .ref p := by simpa using e1
    subst this
    refine ⟨_, ex, ?_, r⟩
    have z : (ρ ++ [some (MV.own xs)]).set ρ.length (some (.lst xs)) = ρ ++ [some (.lst xs)] := by simp
    rw [z] at S'
    exact S'.drop hb
  | obj C fs => cases e
  | dow ks xs =>
    cases e
    obtain ⟨p, vs, e1, ex, r, S'⟩ := S.freezeD (i := ρ.length) (ks := ks) (xs := xs) (by simp)
    rw [← hl] at e1
    have : v = .ref p := by simpa using e1
    subst this
    refine ⟨_, ex, ?_, r⟩
    have z : (ρ ++ [some (MV.dow ks xs)]).set ρ.length (some (.dct ks xs)) = ρ ++ [some (.dct ks xs)] := by simp
    rw [z] at S'
    exact S'.drop hb
  | dot _ _ => cases e
  | _ => cases e; exact pl rfl rfl
theorem rd_fz {m : ME} {σ : St} {H : Hp} {Q : VK} (h : rdE c (mFz m) σ H Q) : rdO c m σ H Q := by
  obtain ⟨F, Hk, bp, ρ, S, h⟩ := h
  refine ⟨F, Hk, bp, ρ, S, ?_⟩
  have h : okE c F Hk bp σ Q ((m ρ).bind fun x ρ1 => match fz x with | some y => .ok (y, ρ1) | none => .stuck) := h
  cases e : m ρ with
  | stuck => rw [e] at h; exact h
  | exc x ρ' => rw [e] at h; exact h
  | ok p =>
    obtain ⟨x, ρ1⟩ := p
    rw [e] at h
    intro Hk1 H1 v x1 S1
    have h : okE c F Hk bp σ Q (match fz x with | some y => .ok (y, ρ1) | none => .stuck) := h
    have l1 : σ.length = ρ1.length := by have := S1.len; simpa using this
    cases ez : fz x with
    | none => rw [ez] at h; exact h.elim
    | some y =>
      rw [ez] at h
      obtain ⟨Hk2, x2, S2, r2⟩ := S1.last (fun q hq => by rw [← l1]; exact lt_get (S.1.bor q hq)) ez
      exact h _ _ _ (x1.trans x2) S2 r2
theorem me_fz {e : Expr} {m : ME} (h : PE X e (rdO c m)) : PE X e (rdE c (mFz m)) := PEw h fun _ _ _ q => rd_fz q
def mCall (f : MF) (a : MA) : ME := fun ρ => (a ρ).bind fun xs ρ1 => match f xs with
  | .ok (v, _) => .ok (v, ρ1)
  | .exc e _ => .exc e ρ1
  | .stuck => .stuck
theorem call_end {f : MF} {n : Nat} {F Hk H : Hp} {bp : List (Nat × Addr)} {σ : St} {ρ : Env} {xs : List MV} {vs : List V} {Q : VK} {E : XK} (S : At c F Hk H bp σ ρ) (r : RVs c.K Hk xs vs) (hn : xs.length = n)
    (hE : ∀ e, (∀ Hk' H' cls d, Ex Hk Hk' → RS c.K F Hk' H' bp σ ρ → ExR c.K c.mg Hk' e cls d → c.W cls d σ H') → ∀ Hk' H' cls d, Ex Hk Hk' → RS c.K F Hk' H' bp σ ρ → ExR c.K c.mg Hk' e cls d → E cls d H')
    (h : okO c F Hk bp σ Q (match f xs with | .ok (v, _) => .ok (v, ρ) | .exc e _ => .exc e ρ | .stuck => .stuck)) : spF c.K c.mg n [] f vs H Q E := by
  refine ⟨by rw [r.length]; exact hn, ?_⟩
  obtain ⟨ow, s⟩ := S.1.ow
  haveI : ∀ a, Decidable (∃ i, a ∈ ow i) := fun a => Classical.propDecidable _
  have fN : ∃ F' : Hp, (∀ i a, a ∈ ow i → F' a = H a) ∧ (∀ a o, F a = some o → F' a = some o) ∧ ∀ a o, F' a = some o → H a = some o ∧ Hk a = none := by
    refine ⟨fun a => if (∃ i, a ∈ ow i) then H a else F a, fun i a ha => if_pos ⟨i, ha⟩, fun a o ha => ?_, fun a o ha => ?_⟩
    · have : ¬ ∃ i, a ∈ ow i := fun ⟨i, hi⟩ => by have := (s.f i a hi).2.1; rw [ha] at this; cases this
      show (if (∃ i, a ∈ ow i) then H a else F a) = some o
      rw [if_neg this]; exact ha
    · have ha : (if (∃ i, a ∈ ow i) then H a else F a) = some o := ha
      by_cases e : ∃ i, a ∈ ow i
      · rw [if_pos e] at ha
        obtain ⟨i, hi⟩ := e
        exact ⟨ha, (s.f i a hi).1⟩
      · rw [if_neg e] at ha
        exact ⟨S.1.fr a o ha, S.1.frk a o ha⟩
  obtain ⟨F', f1, f2, f3⟩ := fN
  refine ⟨F', Hk, [], xs, RS.args S.1.ex (fun a o ha => (f3 a o ha).1) (fun a o ha => (f3 a o ha).2) r, rfl, ?_⟩
  -- what stands behind the call
  have back : ∀ {Hk' H' : Hp} {bσ : St} {bρ : Env}, Ex Hk Hk' → RS c.K F' Hk' H' [] bσ bρ → RS c.K F Hk' H' bp σ ρ ∧ SL c.K F Hk' H' ow σ ρ := fun {Hk' H' bσ bρ} x S' => by
    have own : ∀ i, ∀ a ∈ ow i, H' a = H a ∧ Hk' a = none := fun i a ha => by
      obtain ⟨g1, g2, o, g3⟩ := s.f i a ha
      have q : F' a = some o := (f1 i a ha).trans g3
      exact ⟨(S'.fr a o q).trans g3.symm, S'.frk a o q⟩
    have sl : SL c.K F Hk' H' ow σ ρ := s.step x own
    exact ⟨⟨S.1.len, S'.ex, fun a o ha => S'.fr a o (f2 a o ha), fun a o ha => S'.frk a o (f2 a o ha), ⟨ow, sl⟩, S.1.bor⟩, sl⟩
  cases ef : f xs with
  | stuck => rw [ef] at h; exact h.elim
  | exc e bs =>
    rw [ef] at h
    intro Hk' H' cls d x S' er
    exact hE e h Hk' H' cls d x (back x S').1 er
  | ok p =>
    obtain ⟨v, bs⟩ := p
    rw [ef] at h
    intro Hk' H' w x S'
    obtain ⟨R1, sl⟩ := back x S'
    refine h Hk' H' w x ?_
    obtain ⟨ow2, s2⟩ := S'.ow
    have bl : bs.length = 0 := by have := S'.len; simpa using this.symm
    have be : bs = [] := List.eq_nil_of_length_eq_zero bl
    subst be
    obtain ⟨w2, e2, o2⟩ := s2.s 0 v rfl
    cases e2
    refine ⟨by simp [S.1.len], R1.ex, R1.fr, R1.frk, ⟨_, sl.push S.1.len o2 (fun a ha => ?_) (fun i a ha hi => ?_)⟩, R1.bor_app _⟩
    · obtain ⟨g1, g2, _⟩ := s2.f 0 a ha
      refine ⟨g1, ?_⟩
      cases e : F a with
      | none => rfl
      | some o => rw [f2 a o e] at g2; cases g2
    · obtain ⟨g1, g2, o, g3⟩ := s2.f 0 a ha
      obtain ⟨_, _, o', q⟩ := s.f i a hi
      rw [f1 i a hi, q] at g2
      cases g2
theorem rd_call {f : MF} {n : Nat} {a : MA} {σ : St} {H : Hp} {Q : VK} (hn : ∀ ρ xs ρ', a ρ = .ok (xs, ρ') → xs.length = n) (h : rdO c (mCall f a) σ H Q) : tCallS (spF c.K c.mg n [] f) (WE c.W) (rdA c a) σ H Q := by
  obtain ⟨F, Hk, bp, ρ, S, h⟩ := h
  refine ⟨F, Hk, bp, ρ, S, ?_⟩
  have h : okO c F Hk bp σ Q ((a ρ).bind fun xs ρ1 => match f xs with | .ok (v, _) => .ok (v, ρ1) | .exc e _ => .exc e ρ1 | .stuck => .stuck) := h
  cases e : a ρ with
  | stuck => rw [e] at h; exact h
  | exc x ρ' => rw [e] at h; exact h
  | ok p =>
    obtain ⟨xs, ρ1⟩ := p
    rw [e] at h
    intro Hk1 H1 vs x1 S1 r1
    exact call_end ⟨S1, S.2⟩ r1 (hn _ _ _ e) (fun e q => q) (okO.mono x1 h)
def Lng (a : MA) (n : Nat) : Prop := ∀ ρ xs ρ', a ρ = .ok (xs, ρ') → xs.length = n
theorem lng_nil : Lng mNil 0 := fun ρ xs ρ' h => by cases h; rfl
theorem lng_cons {a : ME} {b : MA} {n : Nat} (h : Lng b n) : Lng (mCons a b) (n + 1) := fun ρ xs ρ' e => by
  unfold mCons at e
  cases ea : a ρ with
  | stuck => rw [ea] at e; cases e
  | exc x r => rw [ea] at e; cases e
  | ok p =>
    rw [ea] at e
    have e : (b p.2).bind (fun ys ρ2 => Res.ok (p.1 :: ys, ρ2)) = .ok (xs, ρ') := e
    cases eb : b p.2 with
    | stuck => rw [eb] at e; cases e
    | exc x r => rw [eb] at e; cases e
    | ok q =>
      rw [eb] at e
      cases e
      simp [h _ _ _ eb]
variable {k : Nat} {fa : Addr} {fd : FuncData} {ps : List Str} {x : Str} {p pos : Pos} {e : Expr} {es : List Expr} {f : MF} {a : MA} {n : Nat}
theorem mo_call (F : FnOk X.prog X.w X.K X.mg X.base (L2N.CX X.prog X.w) k fa fd ps (spF X.K X.mg n [] f)) (hr : Room k X.A) (hm : X.mg x = some (.ref fa)) (hk : PySem.W.keepIn X.K (.ref fa) = true) (hb : Binds X.K fd ps []) (tk : L2N.Takes X c.W)
    (ha : PA X (e :: es) (rdA c a)) (hn : Lng a n) (hg : Gl X x := by rfl) (hK : c.K = X.K := by rfl) (hM : c.mg = X.mg := by rfl) (hdb : (x == ("__debug__" : Str)) = false := by decide) (he : starEach (e :: es) X.env = (false, eval e X.env) :: starEach es X.env := by rfl)
    (hpl : (backTo pos (starEach es X.env)).any (·.1) = false := by rfl) : PE X (.Call (.Name x p) (e :: es) [] pos) (rdO c (mCall f a)) :=
  PEw (pe_callS (E := WE c.W) F hr hg hm hk hb (fun σ => L2N.passAt tk σ) ha hdb he hpl) fun σ H Q h => by
    have := rd_call hn h
    rw [hK, hM] at this
    exact this
def mCall0 (f : MF) (a : MA) : ME := fun ρ => (a ρ).bind fun xs ρ1 => match f xs with
  | .ok (v, _) => .ok (v, ρ1)
  | _ => .stuck
theorem rd_call0 {f : MF} {n : Nat} {a : MA} {σ : St} {H : Hp} {Q : VK} (hn : Lng a n) (h : rdO c (mCall0 f a) σ H Q) : tCall (spF c.K c.mg n [] f) [] (fun _ _ _ => False) (rdA c a) σ H Q := by
  obtain ⟨F, Hk, bp, ρ, S, h⟩ := h
  refine ⟨F, Hk, bp, ρ, S, ?_⟩
  have h : okO c F Hk bp σ Q ((a ρ).bind fun xs ρ1 => match f xs with | .ok (v, _) => .ok (v, ρ1) | _ => .stuck) := h
  cases e : a ρ with
  | stuck => rw [e] at h; exact h
  | exc x ρ' => rw [e] at h; exact h
  | ok p =>
    obtain ⟨xs, ρ1⟩ := p
    rw [e] at h
    intro Hk1 H1 vs x1 S1 r1
    rw [List.append_nil]
    have h : okO c F Hk bp σ Q (match f xs with | .ok (v, _) => .ok (v, ρ1) | _ => .stuck) := h
    cases ef : f xs with
    | stuck => rw [ef] at h; exact h.elim
    | exc e bs => rw [ef] at h; exact h.elim
    | ok q =>
      rw [ef] at h
      refine call_end (f := f) (c := ⟨c.K, c.mg, fun _ _ _ _ => False, c.bs, c.J, c.Jm⟩) ⟨S1, S.2⟩ r1 (hn _ _ _ e) (fun e q => q) ?_
      rw [ef]
      exact fun Hk2 H2 w x2 => h Hk2 H2 w (x1.trans x2)
theorem passes0 {P : Program} {w : World} {X : Cx} : Passes (L2N.CX P w) X fun _ _ _ => False := fun _ _ _ _ _ _ _ ⟨_, _, _, _, _, _, _, _, _, _, _, _, f⟩ => f.elim
theorem mo_call0 (F : FnOk X.prog X.w X.K X.mg X.base (L2N.CX X.prog X.w) k fa fd ps (spF X.K X.mg n [] f)) (hr : Room k X.A) (hm : X.mg x = some (.ref fa)) (hk : PySem.W.keepIn X.K (.ref fa) = true) (hb : Binds X.K fd ps [])
    (ha : PA X (e :: es) (rdA c a)) (hn : Lng a n) (hg : Gl X x := by rfl) (hK : c.K = X.K := by rfl) (hM : c.mg = X.mg := by rfl) (hdb : (x == ("__debug__" : Str)) = false := by decide) (he : starEach (e :: es) X.env = (false, eval e X.env) :: starEach es X.env := by rfl)
    (hpl : (backTo pos (starEach es X.env)).any (·.1) = false := by rfl) : PE X (.Call (.Name x p) (e :: es) [] pos) (rdO c (mCall0 f a)) :=
  PEw (pe_call F hr hg hm hk hb .nil passes0 ha hdb he hpl) fun σ H Q h => by
    have := rd_call0 hn h
    rw [hK, hM] at this
    exact this
end
section
variable {P : Program} {w : World} {K : PySem.W.Frag} {mg : Str → Option Value} {base : Heap}
theorem start_eq {N : List Str} {vs : List V} {xs : List MV} (h : vs.length = xs.length) : L2.start N vs = vs.map some ++ List.replicate (N.length - xs.length) none := by unfold L2.start; rw [h]
theorem fn_ok {x qual : Str} {st : Stmt} {f : Addr} {fd : FuncData} {N ps : List Str} {k : Nat} {bs : List Nat} {m : MS} (F : Fun K x qual st f fd) (S : FnScope N ps (defScope st)) (nd : bs.Nodup) (hbs : ∀ i ∈ bs, i < ps.length)
    (hbody : ∀ (cdv : Value) (A : Around) (outer : List PySem.Env) (s : Shared) (H : Hp) (E : XK), Room k (A.deeper (PyProof.Rows.envOfC qual (defScope st) s.heap.objs.size f cdv)) →
      PSs (cxOf (L2N.CX P w) P w K mg base N qual (defScope st) f cdv A outer s H E) (defBody st) (rdS ⟨K, mg, fun cls d _ H => E cls d H, bs, fun _ _ => True, fun _ _ _ _ _ => trivial⟩ m)) :
    FnOk P w K mg base (L2N.CX P w) (k + 1) f fd ps (spF K mg ps.length bs (mFn N.length bs m)) := by
  refine okXN F S (fun vs H Q E h => h.1) (fun cdv A outer s H vs Q E hr h => ⟨_, hbody cdv A outer s H E hr, ?_⟩)
  obtain ⟨hl, F', Hk, bp, xs, R, eb, h⟩ := h
  have el : vs.length = xs.length := by have := R.len; simpa using this
  rw [start_eq el]
  refine ⟨F', Hk, bp, _, ⟨R.pad _, eb, trivial⟩, ?_⟩
  have bor : ∀ {σ' : St} {Hk' H' : Hp} {ρ' : Env}, RS K F' Hk' H' bp σ' ρ' → bs.map (fun i => (σ'[i]?).join) = bp.map (fun q => some (.ref q.2)) := fun {σ' Hk' H' ρ'} S' => by
    rw [← eb, List.map_map]
    refine List.map_congr_left fun q hq => ?_
    show (σ'[q.1]?).join = _
    rw [S'.bor q hq]; rfl
  have bl : ∀ {σ' : St} {Hk' H' : Hp} {ρ' : Env}, RS K F' Hk' H' bp σ' ρ' → ∀ i ∈ bs, i < ρ'.length := fun {σ' Hk' H' ρ'} S' i hi => by
    rw [← eb] at hi
    obtain ⟨q, hq, rfl⟩ := List.mem_map.mp hi
    rw [← S'.len]; exact lt_get (S'.bor q hq)
  unfold mFn at h
  cases em : m (xs.map some ++ List.replicate (N.length - xs.length) none) with
  | stuck => rw [em] at h; exact h.elim
  | exc e ρ' =>
    rw [em] at h
    intro Hk' H' σ' cls d x S' er
    refine h Hk' H' cls d x ?_ er
    have z := ((S'.push (x := .non) (v := .non) (RV.non.mpr rfl)).pick bs nd (bl S')).drop (fun _ hq => nomatch hq)
    rw [bor S'] at z
    exact z
  | ok p =>
    obtain ⟨fl, ρ'⟩ := p
    rw [em] at h
    have ret : ∀ {Hk' H' : Hp} {σ' : St} {u : V} {v : MV}, okF K mg F' Hk (bp.map fun q => some (.ref q.2)) Q E (.ok (v, endOf bs ρ')) → Ex Hk Hk' → RS K F' Hk' H' bp (σ' ++ [some u]) (ρ' ++ [some v]) → (∀ q ∈ bp, q.1 < ρ'.length) → Q u H' := fun {Hk' H' σ' u v} h x S' hq => by
      refine h Hk' H' u x ?_
      have z := S'.pick bs nd (fun i hi => by
        rw [← eb] at hi
        obtain ⟨q, hq', rfl⟩ := List.mem_map.mp hi
        exact hq q hq')
      have l1 : σ'.length = ρ'.length := by have := S'.len; simpa using this
      have e2 : bs.map (fun i => (σ'[i]?).join) = bp.map (fun q => some (.ref q.2)) := by
        rw [← eb, List.map_map]
        refine List.map_congr_left fun q hq' => ?_
        show (σ'[q.1]?).join = _
        have := S'.bor q hq'
        rw [List.getElem?_append_left (by rw [l1]; exact hq q hq')] at this
        rw [this]; rfl
      rw [e2] at z
      exact z
    cases fl with
    | nx => exact fun Hk' H' σ' x S' => ret h x (S'.push (x := .non) (v := .non) (RV.non.mpr rfl)) (fun q hq => by rw [← S'.len]; exact lt_get (S'.bor q hq))
    | br => exact h.elim
    | ct => exact h.elim
    | rt v =>
      intro Hk' H' σ' u x lq S'
      have l1 : σ'.length = ρ'.length := by have := S'.len; simpa using this
      exact ret h x S' fun q hq => by rw [← l1]; exact lq q hq
end
end Tm
set_option Elab.async false
set_option linter.all false
set_option maxRecDepth 100000
set_option maxHeartbeats 2000000
namespace Tm
open PySem L2
open Evl (Ex ex_rd ex_l ex_t)
def CallS (K : PySem.W.Frag) (f : List MV → Option MV) (r : List V → Hp → VK → Prop) : Prop := ∀ (xs : List MV) (z : MV) (vs : List V) (Hk H : Hp) (Q : VK), f xs = some z → Ex Hk H → RVs K Hk xs vs → (∀ u, RV K Hk z u → Q u H) →
  (∀ p o, H p = none → RV K (upd Hk p o) z (.ref p) → Q (.ref p) (upd H p o)) → r vs H Q
def mBlt (f : List MV → Option MV) (a : MA) : ME := fun ρ => (a ρ).bind fun xs ρ1 => match f xs with | some z => .ok (z, ρ1) | none => .stuck
section
variable {X : Cx} {c : Ct} {x : Str} {p pos : Pos} {e : Expr} {es : List Expr} {a : MA} {id T : String} {f : List MV → Option MV} {r : List V → Hp → VK → Prop}
theorem rd_blt (o : CallS c.K f r) {σ : St} {H : Hp} {Q : VK} (h : rdE c (mBlt f a) σ H Q) : tCB r (rdA c a) σ H Q := by
  obtain ⟨F, Hk, bp, ρ, S, h⟩ := h
  refine rdAw (bA postE S h) fun vs H1 ⟨Hk1, xs, ρ1, x1, S1, r1, h1⟩ => ?_
  have h1 : okE c F Hk1 bp σ Q (match f xs with | some z => .ok (z, ρ1) | none => .stuck) := h1
  cases ef : f xs with
  | none => rw [ef] at h1; exact h1.elim
  | some z =>
    rw [ef] at h1
    exact o xs z vs Hk1 H1 Q ef S1.1.ex r1 (fun u ru => h1 _ _ u (Ex.refl _) S1.1 ru) fun p ob hp ru => h1 _ _ _ (Ex.new (S1.1.ex.back hp)) (S1.1.new hp) ru
theorem me_blt (hc : CallR X (.builtin id) r) (o : CallS c.K f r) (hm : X.mg x = none) (hv : bootBuiltins x = some (.builtin id)) (ha : PA X (e :: es) (rdA c a)) (hg : Gl X x := by rfl) (hn : x ≠ "__name__" := by decide) (hdb : (x == ("__debug__" : Str)) = false := by decide)
    (he : starEach (e :: es) X.env = (false, eval e X.env) :: starEach es X.env := by rfl) (hpl : (backTo pos (starEach es X.env)).any (·.1) = false := by rfl) : PE X (.Call (.Name x p) (e :: es) [] pos) (rdE c (mBlt f a)) :=
  PEw (pe_callB hc hg hm hv ha hn hdb he hpl) fun _ _ _ h => rd_blt o h
theorem me_ty (hc : CallR X (.type T) r) (o : CallS c.K f r) (hm : X.mg x = none) (hv : bootBuiltins x = some (.type T)) (ha : PA X (e :: es) (rdA c a)) (hg : Gl X x := by rfl) (hn : x ≠ "__name__" := by decide) (hdb : (x == ("__debug__" : Str)) = false := by decide)
    (he : starEach (e :: es) X.env = (false, eval e X.env) :: starEach es X.env := by rfl) (hpl : (backTo pos (starEach es X.env)).any (·.1) = false := by rfl) : PE X (.Call (.Name x p) (e :: es) [] pos) (rdE c (mBlt f a)) :=
  PEw (pe_callTy hc hg hm hv ha hn hdb he hpl) fun _ _ _ h => rd_blt o h
theorem me_glob {v : MV} {w : V} {u : Value} (hm : X.mg x = some u) (rv : RelV w u) (r : ∀ H, RV c.K H v w) (hg : Gl X x := by rfl) (hd : (x == ("__debug__" : Str)) = false := by decide) : PE X (.Name x pos) (rdE c (mC v)) :=
  PEw (pe_glob hg hm rv hd) fun _ _ _ h => rd_c r h
theorem me_bltn {w : V} {u : Value} (hm : X.mg x = none) (hv : bootBuiltins x = some u) (rv : RelV w u) (hg : Gl X x := by rfl) (hn : x ≠ "__name__" := by decide) (hd : (x == ("__debug__" : Str)) = false := by decide) : PE X (.Name x pos) (rdE c (mC (.raw w))) :=
  PEw (pe_bltn hg hm hv rv hn hd) fun _ _ _ h => rd_c (fun _ => RV.raw.mpr rfl) h
end
section
variable {K : PySem.W.Frag}
theorem rvs1 {H : Hp} {x : MV} {vs : List V} (r : RVs K H [x] vs) : ∃ v, vs = [v] ∧ RV K H x v := by
  obtain ⟨v, r', rfl, q1, q2⟩ := RVs.cons.mp r
  rw [RVs.nil.mp q2]
  exact ⟨v, rfl, q1⟩
theorem rvs2' {H : Hp} {x y : MV} {vs : List V} (r : RVs K H [x, y] vs) : ∃ v w, vs = [v, w] ∧ RV K H x v ∧ RV K H y w := by
  obtain ⟨v, r', rfl, q1, q2⟩ := RVs.cons.mp r
  obtain ⟨w, rfl, q3⟩ := rvs1 q2
  exact ⟨v, w, rfl, q1, q3⟩
def bLen : List MV → Option MV
  | [.lst xs] => some (.int xs.length)
  | [.tup xs] => some (.int xs.length)
  | [.scr ns] => some (.int ns.length)
  | [.str z] => if szOk z.length then some (.int z.length) else none
  | _ => none
def rLenM (K : PySem.W.Frag) : List V → Hp → VK → Prop := fun xs H Q => (∃ p ys, xs = [.ref p] ∧ (SqL K H p ys ∨ SqT K H p ys) ∧ Q (.int ys.length) H) ∨ ∃ z, xs = [.str z] ∧ z.length ≤ sizeLine ∧ Q (.int z.length) H
theorem cr_lenM {X : Cx} : CallR X (.builtin "len") (rLenM X.K) := CallR.or call_len_seq call_len_str
theorem cs_len : CallS K bLen (rLenM K) := by
  intro xs z vs Hk H Q e ex r q qn
  unfold bLen at e
  split at e
  · cases e
    obtain ⟨v, rfl, rv⟩ := rvs1 r
    obtain ⟨p1, ws, rfl, h1, s1⟩ := RV.lst.mp rv
    exact .inl ⟨p1, ws, rfl, .inl (SqL.of (ex _ _ h1)), by rw [s1.length]; exact q _ (RV.int.mpr rfl)⟩
  · cases e
    obtain ⟨v, rfl, rv⟩ := rvs1 r
    obtain ⟨p1, ws, rfl, h1, s1⟩ := RV.tup.mp rv
    exact .inl ⟨p1, ws, rfl, .inr (ex_t ex h1), by rw [s1.length]; exact q _ (RV.int.mpr rfl)⟩
  · cases e
    obtain ⟨v, rfl, rv⟩ := rvs1 r
    obtain ⟨p1, rfl, h1⟩ := RV.scr.mp rv
    exact .inl ⟨p1, _, rfl, .inl (ex_l ex h1), by rw [List.length_map]; exact q _ (RV.int.mpr rfl)⟩
  · split at e
    · rename_i hz
      cases e
      obtain ⟨v, rfl, rv⟩ := rvs1 r
      exact .inr ⟨_, by rw [RV.str.mp rv], szOk_iff.mp hz, q _ (RV.int.mpr rfl)⟩
    · cases e
  · cases e
def bAbs : List MV → Option MV
  | [.int i] => some (.int (if i < 0 then -i else i))
  | _ => none
theorem cs_abs : CallS K bAbs (fun xs H Q => ∃ i, xs = [.int i] ∧ Q (.int (if i < 0 then -i else i)) H) := by
  intro xs z vs Hk H Q e ex r q qn
  unfold bAbs at e
  split at e
  · cases e
    exact ⟨_, rvs_int1 r, q _ (RV.int.mpr rfl)⟩
  · cases e
def bInt : List MV → Option MV
  | [.int i] => some (.int i)
  | [.bl k] => some (.int (if k then 1 else 0))
  | [.str s] => if decide (s.length ≤ 640) then (PySem.intText? s).map .int else none
  | _ => none
def rIntM : List V → Hp → VK → Prop := fun xs H Q => ((∃ i, xs = [.int i] ∧ Q (.int i) H) ∨ ∃ k, xs = [.bl k] ∧ Q (.int (if k then 1 else 0)) H) ∨ ∃ a n, xs = [.str a] ∧ PySem.intText? a = some n ∧ a.length ≤ 640 ∧ Q (.int n) H
theorem cr_intM {X : Cx} : CallR X (.type "int") rIntM := CallR.or call_int1 call_int_str
theorem cs_int : CallS K bInt rIntM := by
  intro xs z vs Hk H Q e ex r q qn
  unfold bInt at e
  split at e
  · cases e
    exact .inl (.inl ⟨_, rvs_int1 r, q _ (RV.int.mpr rfl)⟩)
  · cases e
    obtain ⟨v, rfl, rv⟩ := rvs1 r
    exact .inl (.inr ⟨_, by rw [RV.bl.mp rv], q _ (RV.int.mpr rfl)⟩)
  · split at e
    · rename_i s hs
      cases en : PySem.intText? s with
      | none => rw [en] at e; cases e
      | some n =>
        rw [en] at e
        cases e
        obtain ⟨v, rfl, rv⟩ := rvs1 r
        exact .inr ⟨s, n, by rw [RV.str.mp rv], en, of_decide_eq_true hs, q _ (RV.int.mpr rfl)⟩
    · cases e
  · cases e
def bTuple : List MV → Option MV
  | [.lst xs] => some (.tup xs)
  | [.tup xs] => some (.tup xs)
  | _ => none
theorem cs_tuple : CallS K bTuple (fun xs H Q => ∃ p ys, xs = [.ref p] ∧ ((SqL K H p ys ∧ ∀ l, H l = none → Q (.ref l) (upd H l (.tup ys))) ∨ (SqT K H p ys ∧ Q (.ref p) H))) := by
  intro xs z vs Hk H Q e ex r q qn
  unfold bTuple at e
  split at e
  · cases e
    obtain ⟨v, rfl, rv⟩ := rvs1 r
    obtain ⟨p1, ws, rfl, h1, s1⟩ := RV.lst.mp rv
    exact ⟨p1, ws, rfl, .inl ⟨SqL.of (ex _ _ h1), fun l hl => qn l _ hl (RV.tup.mpr ⟨l, ws, rfl, SqT.of upd_same, s1.mono (Ex.new (ex.back hl))⟩)⟩⟩
  · cases e
    obtain ⟨v, rfl, rv⟩ := rvs1 r
    obtain ⟨p1, ws, e1, h1, s1⟩ := RV.tup.mp rv
    subst e1
    exact ⟨p1, ws, rfl, .inr ⟨ex_t ex h1, q _ rv⟩⟩
  · cases e
def blsOf : List MV → Option (List Bool)
  | [] => some []
  | .bl b :: r => (blsOf r).map (b :: ·)
  | _ => none
theorem bls_rv {H : Hp} : ∀ {xs : List MV} {bs : List Bool} {vs : List V}, blsOf xs = some bs → RVs K H xs vs → vs = bs.map V.bl
  | [], bs, vs, e, r => by cases e; rw [RVs.nil.mp r]; rfl
  | .bl b :: r', bs, vs, e, r => by
    unfold blsOf at e
    cases h : blsOf r' with
    | none => rw [h] at e; cases e
    | some cs =>
      rw [h] at e
      cases e
      obtain ⟨v, us, rfl, q1, q2⟩ := RVs.cons.mp r
      rw [RV.bl.mp q1, bls_rv h q2]; rfl
  | .non :: _, _, _, e, _ => by cases e
  | .int _ :: _, _, _, e, _ => by cases e
  | .str _ :: _, _, _, e, _ => by cases e
  | .tup _ :: _, _, _, e, _ => by cases e
  | .lst _ :: _, _, _, e, _ => by cases e
  | .own _ :: _, _, _, e, _ => by cases e
  | .raw _ :: _, _, _, e, _ => by cases e
  | .scr _ :: _, _, _, e, _ => by cases e
  | .fnc _ :: _, _, _, e, _ => by cases e
  | .obj _ _ :: _, _, _, e, _ => by cases e
  | .dct _ _ :: _, _, _, e, _ => by cases e
  | .dow _ _ :: _, _, _, e, _ => by cases e
  | .dot _ _ :: _, _, _, e, _ => by cases e
def bAll : List MV → Option MV
  | [.lst xs] => (blsOf xs).map fun bs => .bl (bs.all id)
  | _ => none
theorem cs_all : CallS K bAll (rAll K) := by
  intro xs z vs Hk H Q e ex r q qn
  unfold bAll at e
  split at e
  · rename_i ys
    cases h : blsOf ys with
    | none => rw [h] at e; cases e
    | some bs =>
      rw [h] at e
      cases e
      obtain ⟨v, rfl, rv⟩ := rvs1 r
      obtain ⟨p1, ws, rfl, h1, s1⟩ := RV.lst.mp rv
      have ew := bls_rv h s1
      subst ew
      exact ⟨p1, bs, rfl, SqL.of (ex _ _ h1), q _ (RV.bl.mpr rfl)⟩
  · cases e
inductive Kd where
  | non | bl | int | str | tup | lst
  deriving DecidableEq
def Kd.name : Kd → String
  | .non => "NoneType" | .bl => "bool" | .int => "int" | .str => "str" | .tup => "tuple" | .lst => "list"
def MV.kd : MV → Option Kd
  | .non => some .non | .bl _ => some .bl | .int _ => some .int | .str _ => some .str | .tup _ => some .tup | .lst _ => some .lst
  | _ => none
def kdOf : String → Option Kd
  | "bool" => some .bl | "int" => some .int | "str" => some .str | "tuple" => some .tup | "list" => some .lst
  | _ => none
def Kd.isa (a b : Kd) : Bool := decide (a = b) || (decide (a = .bl) && decide (b = .int))
theorem kit_kd (a b : Kd) (h : b ≠ .non) : kitB a.name b.name = some (a.isa b) := by
  cases a <;> cases b <;> first | exact (h rfl).elim | decide +kernel
def bIsi : List MV → Option MV
  | [x, .raw (.ty T)] => match x.kd, kdOf T with
    | some a, some b => some (.bl (a.isa b))
    | _, _ => none
  | _ => none
theorem kdOf_name {T : String} {b : Kd} (h : kdOf T = some b) : T = b.name ∧ b ≠ .non := by
  unfold kdOf at h
  split at h <;> first | (cases h; exact ⟨rfl, by decide⟩) | cases h
theorem ty_of {Hk H : Hp} {x : MV} {v : V} {a : Kd} (ex : Ex Hk H) (r : RV K Hk x v) (h : x.kd = some a) : TyX K H v (.type a.name) := by
  cases x with
  | non => cases h; rw [RV.non.mp r]; exact .base .non
  | bl b => cases h; rw [RV.bl.mp r]; exact .base (.bl b)
  | int b => cases h; rw [RV.int.mp r]; exact .base (.int b)
  | str b => cases h; rw [RV.str.mp r]; exact .base (.str b)
  | tup xs =>
    cases h
    obtain ⟨p, vs, rfl, h1, _⟩ := RV.tup.mp r
    rcases ex_t ex h1 with (h1 | ⟨o, h1⟩) | ⟨o, its, n, h1, h2, _⟩
    · exact .base (.tup h1)
    · exact .fTuple h1
    · exact .kTuple h1 h2
  | lst xs =>
    cases h
    obtain ⟨p, vs, rfl, h1, _⟩ := RV.lst.mp r
    exact .base (.lst (ex _ _ h1))
  | _ => cases h
theorem cs_isi : CallS K bIsi (rIsi K) := by
  intro xs z vs Hk H Q e ex r q qn
  unfold bIsi at e
  split at e
  · rename_i x T
    split at e
    · rename_i a b e1 e2
      cases e
      obtain ⟨v, w, rfl, r1, r2⟩ := rvs2' r
      obtain ⟨et, nb⟩ := kdOf_name e2
      refine ⟨v, w, _, .type T, _, rfl, ?_, ty_of ex r1 e1, ?_, q _ (RV.bl.mpr rfl)⟩
      · rw [RV.raw.mp r2]; exact .ty T
      · subst et; exact kit_ty (kit_kd a b nb)
    · cases e
  · cases e
end
section
variable {X : Cx} {c : Ct} {p pos : Pos} {e e2 : Expr} {es : List Expr} {a : MA}
theorem mb_len (hm : X.mg "len" = none) (ha : PA X [e] (rdA c a)) (hK : c.K = X.K := by rfl) (hg : Gl X "len" := by rfl) (he : starEach [e] X.env = (false, eval e X.env) :: starEach [] X.env := by rfl) (hpl : (backTo pos (starEach [] X.env)).any (·.1) = false := by rfl) : PE X (.Call (.Name "len" p) [e] [] pos) (rdE c (mBlt bLen a)) :=
  me_blt cr_lenM (by rw [← hK]; exact cs_len) hm PySem.boot_len ha hg (he := he) (hpl := hpl)
theorem mb_abs (hm : X.mg "abs" = none) (ha : PA X [e] (rdA c a)) (hg : Gl X "abs" := by rfl) (he : starEach [e] X.env = (false, eval e X.env) :: starEach [] X.env := by rfl) (hpl : (backTo pos (starEach [] X.env)).any (·.1) = false := by rfl) : PE X (.Call (.Name "abs" p) [e] [] pos) (rdE c (mBlt bAbs a)) :=
  me_blt call_abs cs_abs hm (by decide +kernel) ha hg (he := he) (hpl := hpl)
theorem mb_int (hm : X.mg "int" = none) (ha : PA X [e] (rdA c a)) (hg : Gl X "int" := by rfl) (he : starEach [e] X.env = (false, eval e X.env) :: starEach [] X.env := by rfl) (hpl : (backTo pos (starEach [] X.env)).any (·.1) = false := by rfl) : PE X (.Call (.Name "int" p) [e] [] pos) (rdE c (mBlt bInt a)) :=
  me_ty cr_intM cs_int hm (by decide +kernel) ha hg (he := he) (hpl := hpl)
theorem mb_tuple (hm : X.mg "tuple" = none) (ha : PA X [e] (rdA c a)) (hK : c.K = X.K := by rfl) (hg : Gl X "tuple" := by rfl) (he : starEach [e] X.env = (false, eval e X.env) :: starEach [] X.env := by rfl) (hpl : (backTo pos (starEach [] X.env)).any (·.1) = false := by rfl) : PE X (.Call (.Name "tuple" p) [e] [] pos) (rdE c (mBlt bTuple a)) :=
  me_ty call_tuple_of (by rw [← hK]; exact cs_tuple) hm (by decide +kernel) ha hg (he := he) (hpl := hpl)
theorem mb_all (hc : X.calm = true) (hm : X.mg "all" = none) (ha : PA X [e] (rdA c a)) (hK : c.K = X.K := by rfl) (hg : Gl X "all" := by rfl) (he : starEach [e] X.env = (false, eval e X.env) :: starEach [] X.env := by rfl) (hpl : (backTo pos (starEach [] X.env)).any (·.1) = false := by rfl) : PE X (.Call (.Name "all" p) [e] [] pos) (rdE c (mBlt bAll a)) :=
  me_blt (cr_all hc) (by rw [← hK]; exact cs_all) hm (by decide +kernel) ha hg (he := he) (hpl := hpl)
theorem mb_isi (hm : X.mg "isinstance" = none) (ha : PA X [e, e2] (rdA c a)) (hK : c.K = X.K := by rfl) (hg : Gl X "isinstance" := by rfl) (he : starEach [e, e2] X.env = (false, eval e X.env) :: starEach [e2] X.env := by rfl) (hpl : (backTo pos (starEach [e2] X.env)).any (·.1) = false := by rfl) : PE X (.Call (.Name "isinstance" p) [e, e2] [] pos) (rdE c (mBlt bIsi a)) :=
  me_blt call_isi (by rw [← hK]; exact cs_isi) hm (by decide +kernel) ha hg (he := he) (hpl := hpl)
end
end Tm
set_option Elab.async false
set_option linter.all false
set_option maxRecDepth 100000
set_option maxHeartbeats 2000000
namespace Tm
open PySem L2
open Evl (Ex ex_rd ex_l ex_t)
section
variable {X : Cx} {c : Ct} {p pos apos cpos : Pos} {e e2 : Expr} {es : List Expr} {a b : ME} {m : MA} {x : Str} {i : Nat}
def isOwn (ρ : Env) (i : Nat) : Bool := match ρ[i]? with | some (some (.own _)) => true | _ => false
theorem own_rs {F Hk H : Hp} {bp : List (Nat × Addr)} {σ : St} {ρ : Env} {i : Nat} (S : At c F Hk H bp σ ρ) (h : isOwn ρ i = true) : ∃ q vs, σ[i]? = some (some (.ref q)) ∧ H q = some (.lst vs) := by
  unfold isOwn at h
  split at h
  · rename_i xs e
    obtain ⟨q, vs, e1, e2, _⟩ := S.1.getOwn e
    exact ⟨q, vs, e1, e2⟩
  · cases h
theorem change_rs {F Hk H : Hp} {bp : List (Nat × Addr)} {σ : St} {ρ : Env} {i : Nat} {xs ys : List MV} {q : Addr} (S : At c F Hk H bp σ ρ) (h : ρ[i]? = some (some (.own xs))) (eq : σ[i]? = some (some (.ref q))) :
    ∃ vs, H q = some (.lst vs) ∧ RVs c.K Hk xs vs ∧ ∀ ws, RVs c.K Hk ys ws → RS c.K F Hk (upd H q (.lst ws)) bp σ (ρ.set i (some (.own ys))) := by
  obtain ⟨p, vs, e1, e2, e3, e4⟩ := S.1.change (ys := ys) h
  rw [eq] at e1
  cases e1
  exact ⟨vs, e2, e3, e4⟩
def mLm (f : List MV → List MV → Option (List MV × MV)) (i : Nat) (a : MA) : ME := fun ρ => if isOwn ρ i then (a ρ).bind fun ys ρ1 => match ρ1[i]? with
  | some (some (.own xs)) => (match f xs ys with | some (zs, z) => .ok (z, ρ1.set i (some (.own zs))) | none => .stuck)
  | _ => .stuck else .stuck
def LmS (K : PySem.W.Frag) (f : List MV → List MV → Option (List MV × MV)) (r : V → List V → Hp → VK → Prop) : Prop := ∀ (xs ys zs : List MV) (z : MV) (q : Addr) (vs us : List V) (Hk H : Hp) (Q : VK), f xs ys = some (zs, z) → Ex Hk H → H q = some (.lst vs) → RVs K Hk xs vs → RVs K Hk ys us →
  (∀ ws u, RVs K Hk zs ws → RV K Hk z u → Q u (upd H q (.lst ws))) → r (.ref q) us H Q
theorem rd_lm {f : List MV → List MV → Option (List MV × MV)} {r : V → List V → Hp → VK → Prop} (o : LmS c.K f r) {σ : St} {H : Hp} {Q : VK} (h : rdE c (mLm f i m) σ H Q) : tBM c.K "list" r (tVar i) (rdA c m) σ H Q := by
  obtain ⟨F, Hk, bp, ρ, S, h⟩ := h
  unfold mLm at h
  split at h
  · rename_i ho
    obtain ⟨q, vs0, eq, hq⟩ := own_rs S ho
    refine ⟨_, eq, .inl ⟨rfl, _, SqL.of hq⟩, ?_⟩
    refine rdAw (bA postE S h) fun us H1 ⟨Hk1, ys, ρ1, x1, S1, r1, h1⟩ => ?_
    split at h1
    · rename_i xs ex
      split at h1
      · rename_i zs z ef
        obtain ⟨vs, g1, g2, g3⟩ := change_rs (ys := zs) S1 ex eq
        exact o xs ys zs z q vs us Hk1 H1 Q ef S1.1.ex g1 g2 r1 fun ws u r2 r3 => h1 _ _ u (Ex.refl _) (g3 ws r2) r3
      · exact h1.elim
    · exact h1.elim
  · exact h.elim
def lmAppend : List MV → List MV → Option (List MV × MV)
  | xs, [y] => if decide (xs.length < sizeLine) then some (xs ++ [y], .non) else none
  | _, _ => none
theorem ls_append {K : PySem.W.Frag} : LmS K lmAppend rAppend := by
  intro xs ys zs z q vs us Hk H Q e ex hq r1 r2 k
  unfold lmAppend at e
  split at e
  · split at e
    · rename_i h
      cases e
      obtain ⟨v, rfl, rv⟩ := rvs1 r2
      refine ⟨q, vs, v, rfl, rfl, hq, by rw [r1.length]; exact of_decide_eq_true h, k _ _ (r1.append ?_) (RV.non.mpr rfl)⟩
      exact RVs.cons.mpr ⟨v, [], rfl, rv, RVs.nil.mpr rfl⟩
    · cases e
  · cases e
theorem me_lm1 {f : List MV → List MV → Option (List MV × MV)} {r : V → List V → Hp → VK → Prop} {id : String} {name : Str} (o : LmS c.K f r) (slot : Slot "list" name id) (hty : typeOf (.builtin id) = pure (.type "method_descriptor")) (hm : MtR X id r) (hN : X.N[i]? = some x) (hv : Vis X.env.scope x) (ha : PA X (e :: es) (rdA c m)) (hK : c.K = X.K := by rfl)
    (hbase : attributeBase (.Name x p) name X.env (eval (.Name x p) X.env) = eval (.Name x p) X.env := by rfl)
    (hfew : ((backTo cpos (starEach (e :: es) X.env)).all (fun x => !x.1) && (backToKw cpos (keywordEach [] X.env)).all (fun x => x.1.isSome)
      && decide ((e :: es).length + ([] : List Keyword).length + (if ([] : List Keyword).isEmpty then 0 else 1) < 30)) = true := by rfl)
    (hline : (apos.endLine == cpos.line) = true := by rfl) (hs : starEach (e :: es) X.env = (false, eval e X.env) :: starEach es X.env := by rfl) (hplain : (backTo cpos (starEach es X.env)).any (·.1) = false := by rfl)
    (hd : (x == ("__debug__" : Str)) = false := by decide) (hcd : (x == ("__classdict__" : Str)) = false := by decide) : PE X (.Call (.Attribute (.Name x p) name apos) (e :: es) [] cpos) (rdE c (mLm f i m)) :=
  PEw (pe_bm PySem.F.plainAttrs_list slot hty hm (pe_var hN hv hd hcd) ha hbase hfew hline hs hplain) fun σ H Q h => by
    have := rd_lm o h
    rw [hK] at this
    exact this
end
end Tm
set_option Elab.async false
set_option linter.all false
set_option maxRecDepth 100000
set_option maxHeartbeats 2000000
namespace Tm
open PySem L2
open Evl (Ex ex_rd ex_l ex_t)
inductive Tgt where
  | nm (i : Nat) | tp (is : List Nat) | tn (is : List Nat) (j : Nat)
def gsOf : List Nat → TGs
  | [] => gNil
  | i :: is => gCons (gName i) (gsOf is)
def gOf (K : PySem.W.Frag) : Tgt → TG
  | .nm i => gName i
  | .tp is => gTup K is.length (gsOf is)
  | .tn is j => gTup K 2 (gCons (gTup K is.length (gsOf is)) (gCons (gName j) gNil))
def setAll : List Nat → List MV → Env → Option Env
  | [], [], ρ => some ρ
  | i :: is, x :: xs, ρ => if i < ρ.length then setAll is xs (ρ.set i (some x)) else none
  | _, _, _ => none
def setT (t : Tgt) (x : MV) (ρ : Env) : Option Env := match t with
  | .nm i => if i < ρ.length then some (ρ.set i (some x)) else none
  | .tp is => match x with
    | .tup xs => if xs.length = is.length then setAll is xs ρ else none
    | _ => none
  | .tn is j => match x with
    | .tup [.tup xs, y] => if xs.length = is.length then (setAll is xs ρ).bind fun ρ1 => if j < ρ1.length then some (ρ1.set j (some y)) else none else none
    | _ => none
def Tgt.slots : Tgt → List Nat
  | .nm i => [i]
  | .tp is => is
  | .tn is j => is ++ [j]
theorem wipe_get (σ : St) : ∀ (vs : List Nat) (j : Nat), (wipe σ vs)[j]? = if j ∈ vs ∧ j < σ.length then some none else σ[j]?
  | [], j => by simp [wipe]
  | v :: vs, j => by
    unfold wipe
    by_cases e : v = j
    · subst e
      by_cases hl : v < σ.length
      · rw [List.getElem?_set_self (by rw [wipe_length]; exact hl), if_pos ⟨by simp, hl⟩]
      · rw [if_neg (by intro h; exact hl h.2), List.getElem?_eq_none (by rw [List.length_set, wipe_length]; omega), List.getElem?_eq_none (by omega)]
    · rw [List.getElem?_set_ne e, wipe_get σ vs j]
      by_cases hm : j ∈ vs ∧ j < σ.length
      · rw [if_pos hm, if_pos ⟨List.mem_cons_of_mem _ hm.1, hm.2⟩]
      · rw [if_neg hm, if_neg (fun h => hm ⟨(List.mem_cons.mp h.1).resolve_left (Ne.symm e), h.2⟩)]
theorem wipe_set {σ : St} {vs : List Nat} {i : Nat} {y : Option V} (h : i ∈ vs) : wipe (σ.set i y) vs = wipe σ vs := by
  refine List.ext_getElem? fun j => ?_
  rw [wipe_get, wipe_get, List.length_set]
  by_cases hm : j ∈ vs ∧ j < σ.length
  · rw [if_pos hm, if_pos hm]
  · rw [if_neg hm, if_neg hm]
    by_cases e : i = j
    · subst e
      have : σ.length ≤ i := Nat.le_of_not_lt fun z => hm ⟨h, z⟩
      rw [List.getElem?_eq_none (by simpa using this), List.getElem?_eq_none this]
    · rw [List.getElem?_set_ne e]
theorem wipe_wipe (σ : St) (vs : List Nat) : wipe (wipe σ vs) vs = wipe σ vs := by
  refine List.ext_getElem? fun j => ?_
  rw [wipe_get, wipe_length, wipe_get]
  by_cases hm : j ∈ vs ∧ j < σ.length
  · rw [if_pos hm, if_pos hm]
  · rw [if_neg hm]
def wipeM (ρ : Env) : List Nat → Env
  | [] => ρ
  | v :: vs => (wipeM ρ vs).set v none
theorem wipeM_len (ρ : Env) : ∀ vs : List Nat, (wipeM ρ vs).length = ρ.length
  | [] => rfl
  | v :: vs => by unfold wipeM; rw [List.length_set, wipeM_len ρ vs]
theorem wipeM_get (σ : Env) : ∀ (vs : List Nat) (j : Nat), (wipeM σ vs)[j]? = if j ∈ vs ∧ j < σ.length then some none else σ[j]?
  | [], j => by simp [wipeM]
  | v :: vs, j => by
    unfold wipeM
    by_cases e : v = j
    · subst e
      by_cases hl : v < σ.length
      · rw [List.getElem?_set_self (by rw [wipeM_len]; exact hl), if_pos ⟨by simp, hl⟩]
      · rw [if_neg (by intro h; exact hl h.2), List.getElem?_eq_none (by rw [List.length_set, wipeM_len]; omega), List.getElem?_eq_none (by omega)]
    · rw [List.getElem?_set_ne e, wipeM_get σ vs j]
      by_cases hm : j ∈ vs ∧ j < σ.length
      · rw [if_pos hm, if_pos ⟨List.mem_cons_of_mem _ hm.1, hm.2⟩]
      · rw [if_neg hm, if_neg (fun h => hm ⟨(List.mem_cons.mp h.1).resolve_left (Ne.symm e), h.2⟩)]
def perAt (ρ : Env) (vs : List Nat) : Bool := vs.all fun i => match ρ[i]? with
  | some (some x) => x.per
  | _ => true
def backM (ρ ρ' : Env) (vs : List Nat) : Env := vs.foldl (fun r i => r.set i ((ρ[i]?).join)) ρ'
section
variable {K : PySem.W.Frag} {F Hk H : Hp} {bp : List (Nat × Addr)} {σ : St} {ρ : Env}
theorem SL.setNone {ow : Nat → List Addr} (S : SL K F Hk H ow σ ρ) {i : Nat} : SL K F Hk H (put ow i []) (σ.set i none) (ρ.set i none) := by
  refine ⟨fun j y h => ?_, fun j a h => ?_, fun j h => ?_, fun j k a hjk h => ?_⟩
  · rcases set_get h with ⟨_, e⟩ | ⟨ne, e⟩
    · cases e
    · obtain ⟨u, e1, e2⟩ := S.s j y e
      exact ⟨u, by rw [List.getElem?_set_ne (Ne.symm ne)]; exact e1, by rw [put_ne ne]; exact e2⟩
  · by_cases e : j = i
    · rw [e, put_same] at h; cases h
    · rw [put_ne e] at h; exact S.f j a h
  · by_cases e : j = i
    · rw [e, put_same] at h; exact (h rfl).elim
    · rw [put_ne e] at h; rw [List.length_set]; exact S.w j h
  · by_cases e : j = i
    · rw [e, put_same] at h; cases h
    · rw [put_ne e] at h
      by_cases e2 : k = i
      · rw [e2, put_same]; simp
      · rw [put_ne e2]; exact S.d j k a hjk h
theorem RS.setNone (S : RS K F Hk H bp σ ρ) {i : Nat} (hb : ∀ q ∈ bp, q.1 ≠ i) : RS K F Hk H bp (σ.set i none) (ρ.set i none) := by
  obtain ⟨ow, s⟩ := S.ow
  exact ⟨by simp [S.len], S.ex, S.fr, S.frk, ⟨_, s.setNone⟩, fun q hq => by rw [List.getElem?_set_ne (Ne.symm (hb q hq))]; exact S.bor q hq⟩
theorem RS.wipe (S : RS K F Hk H bp σ ρ) : ∀ vs : List Nat, (∀ q ∈ bp, q.1 ∉ vs) → RS K F Hk H bp (L2.wipe σ vs) (wipeM ρ vs)
  | [], _ => S
  | v :: vs, hb => (RS.wipe S vs fun q hq z => hb q hq (List.mem_cons_of_mem _ z)).setNone fun q hq z => hb q hq (by rw [z]; simp)
theorem RS.back (S : RS K F Hk H bp (L2.wipe σ vs) (wipeM ρ' vs)) (S0 : ∀ i ∈ vs, ∀ x, ρ[i]? = some (some x) → ∃ v, σ[i]? = some (some v) ∧ RV K Hk x v) (hl : ρ.length = ρ'.length) (hl2 : σ.length = ρ.length) (hb : ∀ q ∈ bp, q.1 ∉ vs) : RS K F Hk H bp σ (backM ρ ρ' vs) := by
  have gb : ∀ (vs : List Nat) (r : Env) (j : Nat), r.length = ρ.length → (vs.foldl (fun r i => r.set i ((ρ[i]?).join)) r)[j]? = if j ∈ vs ∧ j < ρ.length then some ((ρ[j]?).join) else r[j]? := fun vs => by
    induction vs with
    | nil => intro r j _; simp
    | cons v vs ih =>
      intro r j hr
      rw [List.foldl_cons, ih _ j (by rw [List.length_set]; exact hr)]
      by_cases hm : j ∈ vs ∧ j < ρ.length
      · rw [if_pos hm, if_pos ⟨List.mem_cons_of_mem _ hm.1, hm.2⟩]
      · rw [if_neg hm]
        by_cases e : v = j
        · subst e
          by_cases hl : v < ρ.length
          · rw [List.getElem?_set_self (by rw [hr]; exact hl), if_pos ⟨by simp, hl⟩]
          · rw [if_neg (by intro h; exact hl h.2), List.getElem?_eq_none (by rw [List.length_set, hr]; omega), List.getElem?_eq_none (by omega)]
        · rw [List.getElem?_set_ne e, if_neg (fun h => hm ⟨(List.mem_cons.mp h.1).resolve_left (Ne.symm e), h.2⟩)]
  have gl : ∀ (vs : List Nat) (r : Env), (vs.foldl (fun r i => r.set i ((ρ[i]?).join)) r).length = r.length := fun vs => by
    induction vs with
    | nil => intro r; rfl
    | cons v vs ih => intro r; rw [List.foldl_cons, ih, List.length_set]
  obtain ⟨ow, s⟩ := S.ow
  have lb : (backM ρ ρ' vs).length = ρ.length := by unfold backM; rw [gl, ← hl]
  refine ⟨by rw [lb, hl2], S.ex, S.fr, S.frk, ⟨fun j => if j ∈ vs then [] else ow j, fun j y h => ?_, fun j a h => ?_, fun j h => ?_, fun j k a hjk h => ?_⟩, fun q hq => ?_⟩
  · unfold backM at h
    rw [gb vs ρ' j hl.symm] at h
    by_cases hm : j ∈ vs ∧ j < ρ.length
    · rw [if_pos hm] at h
      have e : ρ[j]? = some (some y) := by
        cases er : ρ[j]? with
        | none => rw [er] at h; cases h
        | some o => rw [er] at h; cases o with
          | none => cases h
          | some z => cases h; rfl
      obtain ⟨v, e1, r⟩ := S0 j hm.1 y e
      exact ⟨v, e1, by rw [if_pos hm.1]; exact r.ov⟩
    · rw [if_neg hm] at h
      have nj : j ∉ vs := fun z => hm ⟨z, by rw [hl]; exact lt_get h⟩
      obtain ⟨v, e1, o⟩ := s.s j y (by rw [wipeM_get, if_neg (fun z => nj z.1)]; exact h)
      rw [wipe_get, if_neg (fun z => nj z.1)] at e1
      exact ⟨v, e1, by rw [if_neg nj]; exact o⟩
  · by_cases e : j ∈ vs
    · rw [if_pos e] at h; cases h
    · rw [if_neg e] at h; exact s.f j a h
  · by_cases e : j ∈ vs
    · rw [if_pos e] at h; exact (h rfl).elim
    · rw [if_neg e] at h; have := s.w j h; rw [wipeM_len] at this; rw [lb, hl]; exact this
  · by_cases e : j ∈ vs
    · rw [if_pos e] at h; cases h
    · rw [if_neg e] at h
      by_cases e2 : k ∈ vs
      · rw [if_pos e2]; simp
      · rw [if_neg e2]; exact s.d j k a hjk h
  · have := S.bor q hq
    rw [wipe_get, if_neg (fun z => hb q hq z.1)] at this
    exact this
end
section
variable {X : Cx} {c : Ct}
theorem gs_rd {F Hk H : Hp} {bp : List (Nat × Addr)} {vs0 : List Nat} (hb : ∀ q ∈ bp, q.1 ∉ vs0) : ∀ (is : List Nat) (xs : List MV) (ws : List V) (σ : St) (ρ ρ' : Env) (Q : St → Hp → Prop), (∀ i ∈ is, i ∈ vs0) → RS c.K F Hk H bp σ ρ → RVs c.K Hk xs ws → setAll is xs ρ = some ρ' →
    (∀ σ', RS c.K F Hk H bp σ' ρ' → wipe σ' vs0 = wipe σ vs0 → Q σ' H) → gsOf is ws σ H Q
  | [], [], ws, σ, ρ, ρ', Q, _, S, r, e, k => by
    cases e
    exact ⟨RVs.nil.mp r, k σ S rfl⟩
  | [], x :: xs, ws, σ, ρ, ρ', Q, _, S, r, e, k => by cases e
  | i :: is, [], ws, σ, ρ, ρ', Q, _, S, r, e, k => by cases e
  | i :: is, x :: xs, ws, σ, ρ, ρ', Q, hi, S, r, e, k => by
    obtain ⟨v, us, rfl, r1, r2⟩ := RVs.cons.mp r
    unfold setAll at e
    split at e
    · rename_i hl
      have hm := hi i (by simp)
      refine ⟨v, us, rfl, ?_⟩
      refine gs_rd hb is xs us _ _ ρ' Q (fun j hj => hi j (List.mem_cons_of_mem _ hj)) (S.set hl r1 fun q hq z => hb q hq (z ▸ hm)) r2 e fun σ' S' w => k σ' S' (by rw [w, wipe_set hm])
    · cases e
theorem g_rd {F Hk H : Hp} {bp : List (Nat × Addr)} {vs0 : List Nat} (hb : ∀ q ∈ bp, q.1 ∉ vs0) {t : Tgt} {x : MV} {v : V} {σ : St} {ρ ρ' : Env} {Q : St → Hp → Prop} (hi : ∀ i ∈ t.slots, i ∈ vs0) (S : RS c.K F Hk H bp σ ρ) (r : RV c.K Hk x v) (e : setT t x ρ = some ρ')
    (k : ∀ σ', RS c.K F Hk H bp σ' ρ' → wipe σ' vs0 = wipe σ vs0 → Q σ' H) : gOf c.K t v σ H Q := by
  cases t with
  | nm i =>
    have e : (if i < ρ.length then some (ρ.set i (some x)) else none) = some ρ' := e
    split at e
    · rename_i hl
      cases e
      have hm := hi i (by simp [Tgt.slots])
      exact k _ (S.set hl r fun q hq z => hb q hq (z ▸ hm)) (wipe_set hm)
    · cases e
  | tp is =>
    cases x with
    | tup xs =>
      have e : (if xs.length = is.length then setAll is xs ρ else none) = some ρ' := e
      split at e
      · rename_i hl
        obtain ⟨a, ws, rfl, h1, s1⟩ := RV.tup.mp r
        exact ⟨a, ws, rfl, ex_t S.ex h1, by rw [s1.length, hl], gs_rd hb is xs ws σ ρ ρ' Q hi S s1 e k⟩
      · cases e
    | _ => cases e
  | tn is j =>
    unfold setT at e
    dsimp only at e
    split at e
    · rename_i xs y
      split at e
      · rename_i hl
        obtain ⟨a, ws, rfl, h1, s1⟩ := RV.tup.mp r
        obtain ⟨v1, w1, rfl, q1, s2⟩ := RVs.cons.mp s1
        obtain ⟨v2, w2, rfl, q2, s3⟩ := RVs.cons.mp s2
        rw [RVs.nil] at s3
        subst s3
        obtain ⟨b, us, rfl, h2, t1⟩ := RV.tup.mp q1
        obtain ⟨ρ1, e1, e2⟩ := Option.bind_eq_some_iff.mp e
        refine ⟨a, _, rfl, ex_t S.ex h1, rfl, ?_⟩
        refine ⟨.ref b, [v2], rfl, b, us, rfl, ex_t S.ex h2, by rw [t1.length, hl], gs_rd hb is xs us σ ρ ρ1 (fun σ' H' => gCons (gName j) gNil [v2] σ' H' Q) (fun i h => hi i (List.mem_append_left _ h)) S t1 e1 fun σ1 S1 z1 => ?_⟩
        split at e2
        · rename_i hj
          cases e2
          have hm := hi j (List.mem_append_right _ (List.mem_singleton.mpr rfl))
          exact ⟨v2, [], rfl, rfl, k _ (S1.set hj q2 fun q hq z => hb q hq (z ▸ hm)) (by rw [wipe_set hm, z1])⟩
        · cases e2
      · cases e
    · cases e
def Res.b0 {α β : Type} (r : Res (α × Env)) (f : α → Env → Res (β × Env)) : Res (β × Env) :=
  match r with
  | .ok (x, ρ) => f x ρ
  | _ => .stuck
def mLcLoop (g : Tgt) (t : MT) (e : ME) (vs : List Nat) : List MV → List MV → Env → Res (List MV × Env)
  | [], acc, ρ => .ok (acc, ρ)
  | x :: xs, acc, ρ => match setT g x (wipeM ρ vs) with
    | none => .stuck
    | some ρ1 => (t ρ1).b0 fun b ρ2 => if b then (e ρ2).b0 fun y ρ3 => (if acc.length < sizeLine ∧ ρ3.length = ρ.length then mLcLoop g t e vs xs (acc ++ [y]) ρ3 else .stuck) else if ρ2.length = ρ.length then mLcLoop g t e vs xs acc ρ2 else .stuck
def mYes : MT := fun ρ => .ok (true, ρ)
def mLcO (it : MI) (g : Tgt) (t : MT) (e : ME) (vs : List Nat) : ME := fun ρ => (it ρ).bind fun xs ρ1 => if perAt ρ1 vs then (mLcLoop g t e vs xs [] ρ1).b0 fun ys ρ2 => .ok (.own ys, backM ρ1 ρ2 vs) else .stuck
theorem b0E {F Hk H : Hp} {bp : List (Nat × Addr)} {σ : St} {ρ : Env} {β : Type} {P : Hp → Res (β × Env) → Prop} (st : ∀ Hk, ¬ P Hk .stuck) (mo : ∀ Hk Hk' r, Ex Hk Hk' → P Hk r → P Hk' r) {a : ME} {k : MV → Env → Res (β × Env)} (S : At c F Hk H bp σ ρ) (h : P Hk ((a ρ).b0 k)) :
    rdE c a σ H fun v H1 => ∃ Hk1 x ρ1, Ex Hk Hk1 ∧ At c F Hk1 H1 bp σ ρ1 ∧ RV c.K Hk1 x v ∧ P Hk1 (k x ρ1) := by
  refine ⟨F, Hk, bp, ρ, S, ?_⟩
  cases e : a ρ with
  | stuck => rw [e] at h; exact st _ h
  | exc x ρ' => rw [e] at h; exact (st _ h).elim
  | ok q =>
    rw [e] at h
    exact fun Hk1 H1 v x1 S1 r1 => ⟨Hk1, q.1, q.2, x1, ⟨S1, S.2⟩, r1, mo _ _ _ x1 h⟩
theorem b0T {F Hk H : Hp} {bp : List (Nat × Addr)} {σ : St} {ρ : Env} {β : Type} {P : Hp → Res (β × Env) → Prop} (st : ∀ Hk, ¬ P Hk .stuck) (mo : ∀ Hk Hk' r, Ex Hk Hk' → P Hk r → P Hk' r) {a : MT} {k : Bool → Env → Res (β × Env)} (S : At c F Hk H bp σ ρ) (h : P Hk ((a ρ).b0 k)) :
    rdT c a σ H fun b H1 => ∃ Hk1 ρ1, Ex Hk Hk1 ∧ At c F Hk1 H1 bp σ ρ1 ∧ P Hk1 (k b ρ1) := by
  refine ⟨F, Hk, bp, ρ, S, ?_⟩
  cases e : a ρ with
  | stuck => rw [e] at h; exact st _ h
  | exc x ρ' => rw [e] at h; exact (st _ h).elim
  | ok q =>
    rw [e] at h
    exact fun Hk1 H1 x1 S1 => ⟨Hk1, q.2, x1, ⟨S1, S.2⟩, mo _ _ _ x1 h⟩
def okB (c : Ct) (F Hk : Hp) (bp : List (Nat × Addr)) (σ : St) (Q : VK) (ρ0 : Env) (vs : List Nat) : Res (List MV × Env) → Prop
  | .ok (ys, ρ') => okO c F Hk bp σ Q (.ok (.own ys, backM ρ0 ρ' vs))
  | _ => False
theorem okB.mono {F Hk Hk' : Hp} {bp : List (Nat × Addr)} {σ : St} {Q : VK} {ρ0 : Env} {vs : List Nat} {r : Res (List MV × Env)} (x : Ex Hk Hk') (h : okB c F Hk bp σ Q ρ0 vs r) : okB c F Hk' bp σ Q ρ0 vs r := by
  cases r with
  | ok a => exact okO.mono (r := .ok (.own a.1, backM ρ0 a.2 vs)) x h
  | exc e ρ => exact h
  | stuck => exact h
theorem RS.inFr {K : PySem.W.Frag} {F Hk H : Hp} {bp : List (Nat × Addr)} {σ : St} {ρ : Env} {D : Addr} {xs : List V} (S : RS K F Hk H bp σ ρ) (h : H D = none) : RS K (upd F D (.lst xs)) Hk (upd H D (.lst xs)) bp σ ρ := by
  have S' := S.more (o := .lst xs) h
  obtain ⟨ow, s⟩ := S.ow
  refine ⟨S.len, S'.ex, S.fr.both h, fun a o ha => ?_, ⟨ow, fun i x hx => ?_, fun i a ha => ?_, s.w, s.d⟩, S.bor⟩
  · by_cases e : a = D
    · rw [e]; exact S.ex.back h
    · rw [upd_ne e] at ha; exact S.frk a o ha
  · obtain ⟨v, ev, o⟩ := s.s i x hx
    exact ⟨v, ev, o.move (Ex.refl _) fun a ha u hu => by rw [upd_ne (ne_of_none hu h)]; exact hu⟩
  · obtain ⟨g1, g2, o, g3⟩ := s.f i a ha
    have ne := ne_of_none g3 h
    exact ⟨g1, by rw [upd_ne ne]; exact g2, o, by rw [upd_ne ne]; exact g3⟩
theorem RS.grow {K : PySem.W.Frag} {F Hk H : Hp} {bp : List (Nat × Addr)} {σ : St} {ρ : Env} {D : Addr} {xs ys : List V} (S : RS K (upd F D (.lst xs)) Hk H bp σ ρ) : RS K (upd F D (.lst ys)) Hk (upd H D (.lst ys)) bp σ ρ := by
  have hk : Hk D = none := S.frk D _ upd_same
  obtain ⟨ow, s⟩ := S.ow
  have nd : ∀ i a, a ∈ ow i → a ≠ D := fun i a ha e => by
    have := (s.f i a ha).2.1
    rw [e, upd_same] at this
    cases this
  refine ⟨S.len, S.ex.mut hk, fun a o ha => ?_, fun a o ha => ?_, ⟨ow, fun i x hx => ?_, fun i a ha => ?_, s.w, s.d⟩, S.bor⟩
  · by_cases e : a = D
    · subst e; rw [upd_same] at ha ⊢; exact ha
    · rw [upd_ne e] at ha ⊢; exact S.fr a o (by rw [upd_ne e]; exact ha)
  · by_cases e : a = D
    · rw [e]; exact hk
    · rw [upd_ne e] at ha; exact S.frk a o (by rw [upd_ne e]; exact ha)
  · obtain ⟨v, ev, o⟩ := s.s i x hx
    exact ⟨v, ev, o.move (Ex.refl _) fun a ha u hu => by rw [upd_ne (nd i a ha)]; exact hu⟩
  · obtain ⟨g1, g2, o, g3⟩ := s.f i a ha
    exact ⟨g1, by have := nd i a ha; rw [upd_ne this] at g2 ⊢; exact g2, o, by rw [upd_ne (nd i a ha)]; exact g3⟩
theorem RS.outFr {K : PySem.W.Frag} {F Hk H : Hp} {bp : List (Nat × Addr)} {σ : St} {ρ : Env} {D : Addr} {vs : List V} {xs : List MV} (S : RS K (upd F D (.lst vs)) Hk H bp σ ρ) (hF : F D = none) (r : RVs K Hk xs vs) : RS K F Hk H bp (σ ++ [some (.ref D)]) (ρ ++ [some (.own xs)]) := by
  have hk : Hk D = none := S.frk D _ upd_same
  have hH : H D = some (.lst vs) := S.fr D _ upd_same
  have up : ∀ a o, F a = some o → upd F D (.lst vs) a = some o := fun a o ha => by rw [upd_ne (ne_of_none ha hF)]; exact ha
  obtain ⟨ow, s⟩ := S.ow
  have nd : ∀ i a, a ∈ ow i → a ≠ D := fun i a ha e => by
    have := (s.f i a ha).2.1
    rw [e, upd_same] at this
    cases this
  have s' : SL K F Hk H ow σ ρ := ⟨s.s, fun i a ha => by
    obtain ⟨g1, g2, g3⟩ := s.f i a ha
    exact ⟨g1, by rw [upd_ne (nd i a ha)] at g2; exact g2, g3⟩, s.w, s.d⟩
  refine ⟨by simp [S.len], S.ex, fun a o ha => S.fr a o (up a o ha), fun a o ha => S.frk a o (up a o ha), ⟨_, s'.push S.len (A := [D]) (OV.own.mpr ⟨D, vs, rfl, rfl, hH, r⟩) (fun a ha => ?_) (fun i a ha hi => ?_)⟩, S.bor_app _⟩
  · simp at ha; subst ha; exact ⟨hk, hF⟩
  · simp at ha; subst ha; exact nd i a hi rfl
theorem rd_lc {it : MI} {g : Tgt} {t : MT} {e : ME} {vs : List Nat} {σ : St} {H : Hp} {Q : VK} (hg : ∀ i ∈ g.slots, i ∈ vs) (hbs : ∀ i ∈ vs, c.bs.contains i = false) (h : rdO c (mLcO it g t e vs) σ H Q) : tLc (rdI c it) (gOf c.K g) (rdT c t) (rdE c e) vs σ H Q := by
  obtain ⟨F, Hk, bp, ρ, S, h⟩ := h
  have hb : ∀ q ∈ bp, q.1 ∉ vs := fun q hq z => nb S.2.1 (hbs _ z) q hq rfl
  refine ⟨F, Hk, bp, ρ, S, ?_⟩
  have h : okO c F Hk bp σ Q ((it ρ).bind fun xs ρ1 => if perAt ρ1 vs then (mLcLoop g t e vs xs [] ρ1).b0 fun ys ρ2 => .ok (.own ys, backM ρ1 ρ2 vs) else .stuck) := h
  cases ei : it ρ with
  | stuck => rw [ei] at h; exact h
  | exc x ρ' => rw [ei] at h; exact h
  | ok p =>
    obtain ⟨xs, ρ1⟩ := p
    rw [ei] at h
    intro Hk1 H1 J x1 S1 wk D hD
    have h : okO c F Hk1 bp σ Q (if perAt ρ1 vs then (mLcLoop g t e vs xs [] ρ1).b0 fun ys ρ2 => .ok (.own ys, backM ρ1 ρ2 vs) else .stuck) := okO.mono x1 h
    split at h
    · rename_i hper
      have h : okB c F Hk1 bp σ Q ρ1 vs (mLcLoop g t e vs xs [] ρ1) := by
        cases e2 : mLcLoop g t e vs xs [] ρ1 with
        | ok q => rw [e2] at h; exact h
        | exc x r => rw [e2] at h; exact h
        | stuck => rw [e2] at h; exact h
      have fD : F D = none := by
        cases e : F D with
        | none => rfl
        | some o => have := S1.fr D o e; rw [hD] at this; cases this
      have p0 : ∀ i ∈ vs, ∀ x, ρ1[i]? = some (some x) → ∃ v, σ[i]? = some (some v) ∧ RV c.K Hk1 x v := fun i hi x hx => by
        have z := List.all_eq_true.mp hper i hi
        rw [hx] at z
        exact S1.get hx z
      refine ⟨fun i m H' => m = xs.length - i ∧ i ≤ xs.length ∧ ∃ Hk' ρ' acc ws, Ex Hk1 Hk' ∧ RS c.K (upd F D (.lst ws)) Hk' H' bp (wipe σ vs) (wipeM ρ' vs) ∧ RVs c.K Hk' acc ws ∧ ρ'.length = ρ1.length ∧ okB c F Hk' bp σ Q ρ1 vs (mLcLoop g t e vs (xs.drop i) acc ρ'),
        ⟨xs.length, by simp, Nat.zero_le _, Hk1, ρ1, [], [], Ex.refl _, (S1.wipe vs hb).inFr hD, RVs.nil.mpr rfl, rfl, h⟩, ?_⟩
      rintro i m H' ⟨rfl, hi, Hk', ρ', acc, ws, x', S', ra, hl, h'⟩
      by_cases hlt : i < xs.length
      · refine .inr ⟨wk.go i H' (x'.trans S'.ex) hlt, fun H2 => ∃ Hk2 ρ2 acc2 ws2, Ex Hk1 Hk2 ∧ RS c.K (upd F D (.lst ws2)) Hk2 H2 bp (wipe σ vs) (wipeM ρ2 vs) ∧ RVs c.K Hk2 acc2 ws2 ∧ ρ2.length = ρ1.length ∧ okB c F Hk2 bp σ Q ρ1 vs (mLcLoop g t e vs (xs.drop (i + 1)) acc2 ρ2),
          fun H2 z => ⟨xs.length - (i + 1), by omega, rfl, hlt, z⟩, fun x H2 y => ?_⟩
        obtain ⟨z, ez, hz⟩ := wk.yld i H' x H2 (x'.trans S'.ex) hlt y
        have ed : xs.drop i = z :: xs.drop (i + 1) := by
          rw [List.drop_eq_getElem_cons hlt]
          rw [List.getElem?_eq_getElem hlt] at ez
          cases ez; rfl
        rw [ed] at h'
        have st : ∀ Hk, ¬ okB c F Hk bp σ Q ρ1 vs .stuck := fun _ f => f
        have mo : ∀ Hk Hk' r, Ex Hk Hk' → okB c F Hk bp σ Q ρ1 vs r → okB c F Hk' bp σ Q ρ1 vs r := fun _ _ _ x h => okB.mono x h
        have fin : ∀ Hk3, Ex Hk' Hk3 → RS c.K (upd F D (.lst ws)) Hk3 H2 bp (wipe σ vs) (wipeM ρ' vs) → RV c.K Hk3 z x →
            gOf c.K g x (wipe σ vs) H2 fun σ2 H2 => wipe σ2 vs = wipe σ vs ∧ rdT c t σ2 H2 fun b H3 => if b = true then rdE c e σ2 H3 fun y H4 => ∃ acc, H4 D = some (.lst acc) ∧ acc.length < sizeLine ∧
              (∃ Hk2 ρ2 acc2 ws2, Ex Hk1 Hk2 ∧ RS c.K (upd F D (.lst ws2)) Hk2 (upd H4 D (.lst (acc ++ [y]))) bp (wipe σ vs) (wipeM ρ2 vs) ∧ RVs c.K Hk2 acc2 ws2 ∧ ρ2.length = ρ1.length ∧ okB c F Hk2 bp σ Q ρ1 vs (mLcLoop g t e vs (xs.drop (i + 1)) acc2 ρ2)) else
              ∃ Hk2 ρ2 acc2 ws2, Ex Hk1 Hk2 ∧ RS c.K (upd F D (.lst ws2)) Hk2 H3 bp (wipe σ vs) (wipeM ρ2 vs) ∧ RVs c.K Hk2 acc2 ws2 ∧ ρ2.length = ρ1.length ∧ okB c F Hk2 bp σ Q ρ1 vs (mLcLoop g t e vs (xs.drop (i + 1)) acc2 ρ2) := fun Hk3 x3 S3 r3 => by
          have h' := okB.mono x3 h'
          unfold mLcLoop at h'
          cases eg : setT g z (wipeM ρ' vs) with
          | none => rw [eg] at h'; exact h'.elim
          | some ρ3 =>
            rw [eg] at h'
            refine g_rd hb hg S3 r3 eg fun σ2 S4 w2 => ⟨by rw [w2, wipe_wipe], ?_⟩
            have w2' : wipe σ2 vs = wipe σ vs := by rw [w2, wipe_wipe]
            refine rdTw (b0T st mo ⟨S4, S.2.1, c.Jm _ _ _ (Ex.new fD) S.2.2⟩ h') fun b H3 ⟨Hk4, ρ4, x4, S5, h5⟩ => ?_
            cases b with
            | true =>
              rw [if_pos rfl] at h5 ⊢
              refine rdw (b0E st mo S5 h5) fun y H4 ⟨Hk5, yy, ρ5, x5, S6, r6, h6⟩ => ?_
              split at h6
              · rename_i hz
                have ra' := ra.mono (x3.trans (x4.trans x5))
                refine ⟨ws, S6.1.fr D _ upd_same, by rw [ra'.length]; exact hz.1, Hk5, ρ5, acc ++ [yy], ws ++ [y], x'.trans (x3.trans (x4.trans x5)), ?_, ra'.append (RVs.cons.mpr ⟨y, [], rfl, r6, RVs.nil.mpr rfl⟩), by rw [hz.2, hl], h6⟩
                have := (S6.1.wipe vs hb)
                rw [w2'] at this
                exact this.grow
              · exact h6.elim
            | false =>
              rw [if_neg (by decide)] at h5 ⊢
              split at h5
              · rename_i hz
                refine ⟨Hk4, ρ4, acc, ws, x'.trans (x3.trans x4), ?_, ra.mono (x3.trans x4), by rw [hz, hl], h5⟩
                have := (S5.1.wipe vs hb)
                rw [w2'] at this
                exact this
              · exact h5.elim
        rcases hz with ⟨rfl, r⟩ | ⟨p, us, ys, hp, rfl, rfl, rfl, r⟩
        · exact fin Hk' (Ex.refl _) S' (RV.mono x' _ _ r)
        · have xn := Ex.new (o := .tup us) (S'.ex.back hp)
          exact fin _ xn (S'.new hp) (RV.tup.mpr ⟨p, us, rfl, SqT.of upd_same, r.mono (x'.trans xn)⟩)
      · have e : i = xs.length := by omega
        subst e
        rw [List.drop_length] at h'
        refine .inl ⟨wk.stop H' (x'.trans S'.ex), ?_⟩
        have out := S'.outFr fD ra
        have bk : RS c.K (upd F D (.lst ws)) Hk' H' bp σ (backM ρ1 ρ' vs) := RS.back S' (fun i hi x hx => by
          obtain ⟨v, ev, rv⟩ := p0 i hi x hx
          exact ⟨v, ev, RV.mono x' _ _ rv⟩) hl.symm S1.len hb
        exact h' _ _ _ (Ex.refl _) (bk.outFr fD ra)
    · exact h.elim
end
end Tm
set_option Elab.async false
set_option linter.all false
set_option maxRecDepth 100000
set_option maxHeartbeats 2000000
namespace Tm
open PySem L2
theorem hbs_of {bs vs : List Nat} (h : (vs.all fun v => !bs.contains v) = true) : ∀ i ∈ vs, bs.contains i = false := fun i hi => by
  have := List.all_eq_true.mp h i hi
  simpa using this
open Evl (Ex ex_rd ex_l ex_t)
section
variable {X : Cx} {c : Ct} {elt tg iter : Expr} {ifs : List Expr} {scope : Scope} {own : List (Str × Nat)} {pos : Pos} {it : MI} {g : Tgt} {t : MT} {e : ME}
theorem mts_nil : PTs X [] (rdT c mYes) := ⟨fun pins s σ H Q I ⟨F, Hk, bp, ρ, S, h⟩ => pts_nil.run pins s σ H Q I (h _ _ (Ex.refl _) S.1)⟩
theorem mo_lc (hc : X.calm = true) (hN : X.N.Nodup) (hi : PI X tg iter (rdI c it)) (ok : BlkOk X.N X.env.scope scope own) (hg : ∀ (s : Shared) (H : Hp) (C : Addr) (cl : List (Str × Addr)) (fp : List Addr), PG (X.blk s H scope (compEnvC scope cl C X.env) fp) tg (gOf X.K g))
    (ht : ∀ (s : Shared) (H : Hp) (C : Addr) (cl : List (Str × Addr)) (fp : List Addr), PTs (X.blk s H scope (compEnvC scope cl C X.env) fp) ifs (rdT c t)) (he : ∀ (s : Shared) (H : Hp) (C : Addr) (cl : List (Str × Addr)) (fp : List Addr), PE (X.blk s H scope (compEnvC scope cl C X.env) fp) elt (rdE c e))
    (hgs : ∀ i ∈ g.slots, i ∈ own.map (·.2) := by decide) (hbs : ∀ i ∈ own.map (·.2), c.bs.contains i = false := by decide) (hK : c.K = X.K := by rfl) (hs : ∀ x, foldedSetIterable iter X.env x = pure x := by intro _; rfl) :
    PE X (.ListComp elt [⟨tg, iter, ifs, 0⟩] scope pos) (rdO c (mLcO it g t e (own.map (·.2)))) := PEw (pe_lc hc hN hi ok hg ht he hs) fun σ H Q h => by rw [← hK]; exact rd_lc hgs hbs h
end
theorem only_rs {K : PySem.W.Frag} {H : Hp} {a : Addr} {ns : List Int} (h : SqL K H a (ns.map V.int)) : RS K (fun _ => none) H H [] ([V.ref a].map some) ([MV.scr ns].map some) :=
  RS.args (Ex.refl _) (fun _ _ z => nomatch z) (fun _ _ z => nomatch z) (RVs.cons.mpr ⟨_, [], rfl, RV.scr.mpr ⟨a, rfl, h⟩, RVs.nil.mpr rfl⟩)
theorem walk_law {l : PySem.W.OpenLaw} {k : Nat} {q : Program} {loose : List Str} {XP : (Str → Option Value) → Heap → Prop} {YP : World → Heap → Prop} {d : DefRec} {K : Params → PySem.W.Frag} {x : Str} {f : MF}
    (hn : l.most = some 63) (hdf : d.params.defaults = []) (hr : Room k callerA) (hY : ∀ (w : World) (h : Heap), YP w h → (K w.params).In h)
    (hf : ∀ ns : List Int, ns.length ≤ 63 → ∃ bs, f [.scr ns] = .ok (.bl true, bs))
    (F : ∀ (w : World) (mg : Str → Option Value) (fa : Addr) (h : Heap), (K w.params).In h → h.Ns mainGlobals mg → mg d.name = some (.ref fa) →
      ∃ fd : FuncData, (∀ (s : Shared) (u : Value), BindsTo s fd ⟨[u], []⟩ [(x, u)]) ∧
        ∀ base : Heap, (K w.params).In base → base.Ns mainGlobals mg → FnOk l.prog w (K w.params) mg base (L2N.CX l.prog w) k fa fd [x] (spF (K w.params) mg 1 [] f)) :
    PySem.W.WalkO q loose XP YP l.row.toRowW d [] (fun f vs => PySem.call f vs) := by
  refine L2.walk_of (x := x) (K := K) (CX := fun w => L2N.CX l.prog w) (sp := fun w vs H Q E => ∃ (a : Addr) (ns : List Int), vs = [.ref a] ∧ ns.length ≤ 63 ∧ SqL (K w.params) H a (ns.map V.int) ∧ ∀ H', Q (.bl true) H') hn (by rw [sizeLine_eq]; decide) hdf hr hY (fun w mg fa h KX G hmg => ?_) (fun w H a ns hl _ hS => ⟨a, ns, rfl, hl, hS, fun _ => rfl⟩) ?_
  · obtain ⟨fd, hb, hF⟩ := F w mg fa h KX G hmg
    refine ⟨fd, hb, fun base h1 h2 => (hF base h1 h2).imp ?_⟩
    rintro vs H Q E ⟨a, ns, rfl, hl, hS, q⟩
    obtain ⟨bs, e⟩ := hf ns hl
    refine ⟨rfl, fun _ => none, H, [], [.scr ns], only_rs hS, rfl, ?_⟩
    rw [e]
    intro Hk' H' w x S'
    have bl : bs.length = 0 := by have := S'.len; simpa using this.symm
    have be : bs = [] := List.eq_nil_of_length_eq_zero bl
    subst be
    obtain ⟨v, ev, rv⟩ := S'.get (i := 0) (x := .bl true) rfl rfl
    cases ev
    rw [RV.bl.mp rv]
    exact q _
  · rintro w H s e s' ⟨_, _, _, _, _, _, _, _, _, _, _, _, f⟩
    exact f
structure Fd (P : Program) (w : World) (K : PySem.W.Frag) (mg : Str → Option Value) (base : Heap) (x : Str) (k : Nat) (ps : List Str) (bs : List Nat) (f : MF) : Prop where
  ex : ∃ (a : Addr) (fd : FuncData), FnOk P w K mg base (L2N.CX P w) k a fd ps (spF K mg ps.length bs f) ∧ mg x = some (.ref a) ∧ PySem.W.keepIn K (.ref a) = true ∧ Binds K fd ps []
structure Bn (mg : Str → Option Value) : Prop where
  len : mg "len" = none
  range : mg "range" = none
  abs : mg "abs" = none
  max : mg "max" = none
  min : mg "min" = none
  int : mg "int" = none
  str : mg "str" = none
  tuple : mg "tuple" = none
  list : mg "list" = none
  all : mg "all" = none
  any : mg "any" = none
  isinstance : mg "isinstance" = none
  divmod : mg "divmod" = none
  sum : mg "sum" = none
  zip : mg "zip" = none
  enumerate : mg "enumerate" = none
  reversed : mg "reversed" = none
  sorted : mg "sorted" = none
  dict : mg "dict" = none
  set : mg "set" = none
  bool : mg "bool" = none
section
variable {X : Cx} {c : Ct} {k : Nat} {ps : List Str} {x : Str} {p pos : Pos} {e : Expr} {es : List Expr} {f : MF} {a : MA} {j : Nat}
theorem mf_call (G : Fd X.prog X.w X.K X.mg X.base x k ps [] f) (hr : Room j X.A) (hj : k ≤ j) (tk : L2N.Takes X c.W) (ha : PA X (e :: es) (rdA c a)) (hn : Lng a ps.length) (hg : Gl X x := by rfl) (hK : c.K = X.K := by rfl) (hM : c.mg = X.mg := by rfl) (hdb : (x == ("__debug__" : Str)) = false := by decide)
    (he : starEach (e :: es) X.env = (false, eval e X.env) :: starEach es X.env := by rfl) (hpl : (backTo pos (starEach es X.env)).any (·.1) = false := by rfl) : PE X (.Call (.Name x p) (e :: es) [] pos) (rdO c (mCall f a)) := by
  obtain ⟨fa, fd, F, hm, hk, hb⟩ := G.ex
  exact mo_call F (hr.mono hj) hm hk hb tk ha hn hg hK hM hdb he hpl
theorem mf_call0 (G : Fd X.prog X.w X.K X.mg X.base x k ps [] f) (hr : Room j X.A) (hj : k ≤ j) (ha : PA X (e :: es) (rdA c a)) (hn : Lng a ps.length) (hg : Gl X x := by rfl) (hK : c.K = X.K := by rfl) (hM : c.mg = X.mg := by rfl) (hdb : (x == ("__debug__" : Str)) = false := by decide)
    (he : starEach (e :: es) X.env = (false, eval e X.env) :: starEach es X.env := by rfl) (hpl : (backTo pos (starEach es X.env)).any (·.1) = false := by rfl) : PE X (.Call (.Name x p) (e :: es) [] pos) (rdO c (mCall0 f a)) := by
  obtain ⟨fa, fd, F, hm, hk, hb⟩ := G.ex
  exact mo_call0 F (hr.mono hj) hm hk hb ha hn hg hK hM hdb he hpl
end
end Tm
set_option Elab.async false
set_option linter.all false
set_option maxRecDepth 100000
set_option maxHeartbeats 2000000
namespace Tm
open PySem L2
open Evl (Ex ex_rd ex_l ex_t)
def Cst (K : PySem.W.Frag) (mg : Str → Option Value) (x : Str) (v : MV) : Prop := ∃ w u, mg x = some u ∧ RelV w u ∧ ∀ H, RV K H v w
section
variable {X : Cx} {c : Ct} {x : Str} {pos : Pos}
theorem mf_con {v : MV} (h : Cst X.K X.mg x v) (hg : Gl X x := by rfl) (hK : c.K = X.K := by rfl) (hd : (x == ("__debug__" : Str)) = false := by decide) : PE X (.Name x pos) (rdE c (mC v)) := by
  obtain ⟨w, u, hm, rv, r⟩ := h
  exact me_glob hm rv (by rw [hK]; exact r) hg hd
end
theorem cst_str {K : PySem.W.Frag} {mg : Str → Option Value} {x : Str} {i : Str} {t : Tok} (h : mg x = some (.str i t)) : Cst K mg x (.str i) := ⟨.str i, _, h, ⟨t, rfl⟩, fun _ => RV.str.mpr rfl⟩
def flatIs : MV → Value → Bool
  | .int i, .int j _ => i == j
  | .str i, .str j _ => i == j
  | .non, .none => true
  | .bl a, .bool b => a == b
  | _, _ => false
def flatsIs : List MV → List Value → Bool
  | [], [] => true
  | x :: xs, v :: vs => flatIs x v && flatsIs xs vs
  | _, _ => false
end Tm
set_option Elab.async false
set_option linter.all false
set_option maxRecDepth 100000
set_option maxHeartbeats 2000000
namespace Tm
open PySem L2
open Evl (Ex ex_rd ex_l ex_t)
theorem blkOk_at {N N' : List Str} {sc sc' bs : Scope} {own : List (Str × Nat)} (hN : N = N') (hs : sc = sc') (h : blkC N' sc' bs own = true) : BlkOk N sc bs own := by
  subst hN hs
  exact blkOk_by h
end Tm
set_option Elab.async false
set_option linter.all false
set_option maxRecDepth 100000
set_option maxHeartbeats 2000000
namespace Tm
open PySem L2 PySem.Spec PyProof.Rows
open Evl (Ex ex_rd ex_l ex_t)
structure Bas (K : PySem.W.Frag) (mg : Str → Option Value) (y : Str) : Prop where
  ex : ∃ CL : Addr, mg y = some (.ref CL) ∧ PySem.W.readsIn K CL (.type "type") = true ∧ PySem.W.specialIn K (.ref CL) "__getattribute__" = some (some (.builtin "type.__getattribute__")) ∧ PySem.W.findCls K (.ref CL) (.type "type") "__init__" = some (.val (.builtin "ValueError.__init__"))
structure OwX (K : PySem.W.Frag) (mg : Str → Option Value) (x : Str) (C fI : Addr) : Prop where
  T : OexC K C
  m : mg x = some (.ref C)
  iC : PySem.W.findIn K (.ref C) "__init__" = some (some (.ref fI))
  tI : PySem.W.typeIn K (.ref fI) = some (.type "function")
def spI1 (K : PySem.W.Frag) (f : Str) : Sp := fun vs H Q _ => ∃ (a C : Addr) (v : V), vs = [.ref a, v] ∧ OexC K C ∧ PySem.W.findIn K (.ref C) f = some none ∧ H a = some (exo a C none) ∧
  ∀ d, H d = none → d ≠ a → Q .non (upd (upd H d (exd d [(f, v)])) a (exo a C (some d)))
def spI2 (K : PySem.W.Frag) (f g : Str) : Sp := fun vs H Q _ => ∃ (a C : Addr) (v w : V), vs = [.ref a, v, w] ∧ OexC K C ∧ PySem.W.findIn K (.ref C) f = some none ∧ PySem.W.findIn K (.ref C) g = some none ∧ H a = some (exo a C none) ∧
  ∀ d, H d = none → d ≠ a → Q .non (upd (upd (upd H d (exd d [(f, v)])) a (exo a C (some d))) d (exd d [(g, w), (f, v)]))
end Tm
set_option Elab.async false
set_option linter.all false
set_option maxRecDepth 100000
set_option maxHeartbeats 2000000
namespace Tm
open PySem L2 PySem.Spec PyProof.Rows
open Evl (Ex ex_rd ex_l ex_t)
def NoX (H H' : Hp) : Prop := ∀ a o, H a = some o → (∀ fs, o ≠ .xd fs) → H' a = some o
theorem NoX.rdl {H H' : Hp} (e : NoX H H') {a : Addr} {xs : List V} (h : Rd H a (.lst xs)) : Rd H' a (.lst xs) := by
  rcases h with h | ⟨o, h⟩
  · exact Or.inl (e a _ h (fun _ z => nomatch z))
  · exact Or.inr ⟨o, e a _ h (fun _ z => nomatch z)⟩
theorem NoX.rdt {H H' : Hp} (e : NoX H H') {a : Addr} {xs : List V} (h : Rd H a (.tup xs)) : Rd H' a (.tup xs) := by
  rcases h with h | ⟨o, h⟩
  · exact Or.inl (e a _ h (fun _ z => nomatch z))
  · exact Or.inr ⟨o, e a _ h (fun _ z => nomatch z)⟩
mutual
theorem RV.sub {K : PySem.W.Frag} {H H' : Hp} (e : NoX H H') : ∀ (x : MV) (v : V), RV K H x v → RV K H' x v
  | .non, v, h => by unfold RV at h ⊢; exact h
  | .bl b, v, h => by unfold RV at h ⊢; exact h
  | .int i, v, h => by unfold RV at h ⊢; exact h
  | .str x, v, h => by unfold RV at h ⊢; exact h
  | .tup xs, v, h => by
    unfold RV at h ⊢
    obtain ⟨a, vs, e1, e2, e3⟩ := h
    exact ⟨a, vs, e1, e2.imp e.rdt id, RVs.sub e xs vs e3⟩
  | .lst xs, v, h => by
    unfold RV at h ⊢
    obtain ⟨a, vs, e1, e2, e3⟩ := h
    exact ⟨a, vs, e1, e _ _ e2 (fun _ z => nomatch z), RVs.sub e xs vs e3⟩
  | .own xs, v, h => by unfold RV at h; exact h.elim
  | .raw w, v, h => by unfold RV at h ⊢; exact h
  | .scr ns, v, h => by
    unfold RV at h ⊢
    obtain ⟨a, e1, e2⟩ := h
    exact ⟨a, e1, e2.imp e.rdl id⟩
  | .fnc x, v, h => by unfold RV at h ⊢; exact h
  | .obj C fs, v, h => by unfold RV at h; exact h.elim
  | .dct ks xs, v, h => by
    unfold RV at h ⊢
    obtain ⟨a, vs, e1, e2, e3, e4⟩ := h
    exact ⟨a, vs, e1, e _ _ e2 (fun _ z => nomatch z), e3, RVs.sub e xs vs e4⟩
  | .dow ks xs, v, h => by unfold RV at h; exact h.elim
  | .dot ks xs, v, h => by unfold RV at h; exact h.elim
theorem RVs.sub {K : PySem.W.Frag} {H H' : Hp} (e : NoX H H') : ∀ (xs : List MV) (vs : List V), RVs K H xs vs → RVs K H' xs vs
  | [], vs, h => by unfold RVs at h ⊢; exact h
  | x :: xs, vs, h => by
    unfold RVs at h ⊢
    obtain ⟨v, r, e1, e2, e3⟩ := h
    exact ⟨v, r, e1, RV.sub e x v e2, RVs.sub e xs r e3⟩
end
theorem KN.sub {K : PySem.W.Frag} {Hk Hk' : Hp} (e : NoX Hk Hk') : ∀ {ks xs : List MV} {l : List (NestedKey × Addr × V)}, KN K Hk ks xs l → KN K Hk' ks xs l
  | [], [], _, h => h
  | [], _ :: _, _, h => h.elim
  | _ :: _, [], _, h => h.elim
  | k :: ks, x :: xs, _, h => by
    obtain ⟨nk, a, v, r, h1, h2, h3, h4, h5, h6⟩ := h
    exact ⟨nk, a, v, r, h1, h2, h3, RV.sub e _ _ h4, RV.sub e _ _ h5, KN.sub e h6⟩
theorem OF.sub {K : PySem.W.Frag} {Hk Hk' H : Hp} {x : MV} {v : V} {A : List Addr} (e : NoX Hk Hk') (h : OF K Hk H x v A) : OF K Hk' H x v A := by
  cases x with
  | own xs =>
    unfold OF at h ⊢
    obtain ⟨p, vs, e1, e2, e3, e4⟩ := h
    exact ⟨p, vs, e1, e2, e3, RVs.sub e _ _ e4⟩
  | dow ks xs =>
    unfold OF at h ⊢
    obtain ⟨p, vs, e1, e2, e3, e5, e4⟩ := h
    exact ⟨p, vs, e1, e2, e3, e5, RVs.sub e _ _ e4⟩
  | dot ks xs =>
    unfold OF at h ⊢
    obtain ⟨p, l, e1, e2, e3, e4⟩ := h
    exact ⟨p, l, e1, e2, e3, KN.sub e e4⟩
  | obj C fs => exact (show False by unfold OF at h; unfold RV at h; exact h.2).elim
  | _ =>
    unfold OF at h ⊢
    exact ⟨h.1, RV.sub e _ _ h.2⟩
theorem OFs.sub {K : PySem.W.Frag} {Hk Hk' H : Hp} (e : NoX Hk Hk') : ∀ {fs : List (Str × MV)} {vs : List (Str × V)} {A : List Addr}, OFs K Hk H fs vs A → OFs K Hk' H fs vs A
  | [], _, _, h => h
  | (n, x) :: fs, vs, A, h => by
    obtain ⟨v, r, B, C, e1, e2, h1, h2⟩ := h
    exact ⟨v, r, B, C, e1, e2, h1.sub e, OFs.sub e h2⟩
theorem OV.sub {K : PySem.W.Frag} {Hk Hk' H : Hp} {x : MV} {v : V} {A : List Addr} (e : NoX Hk Hk') (h : OV K Hk H x v A) : OV K Hk' H x v A := by
  cases x with
  | obj C fs =>
    unfold OV at h ⊢
    obtain ⟨p, CA, dx, vfs, B, e1, e2, e0, e3, e4, e5⟩ := h
    exact ⟨p, CA, dx, vfs, B, e1, e2, e0, e3, OFs.sub e e4, e5⟩
  | _ => (unfold OV at h ⊢; exact OF.sub e h)
section
variable {K : PySem.W.Frag} {F Hk H : Hp} {bp : List (Nat × Addr)} {σ : L2.St} {ρ : Env}
theorem SL.hole {ow : Nat → List Addr} (S : SL K F Hk H ow σ ρ) {i : Nat} (y : Option V) : SL K F Hk H (put ow i []) (σ.set i y) (ρ.set i none) := by
  refine ⟨fun j x h => ?_, fun j a h => ?_, fun j h => ?_, fun j k a hjk h => ?_⟩
  · rcases set_get h with ⟨_, e⟩ | ⟨ne, e⟩
    · cases e
    · obtain ⟨v, e1, o⟩ := S.s j x e
      refine ⟨v, by rw [List.getElem?_set_ne (Ne.symm ne)]; exact e1, ?_⟩
      unfold put
      rw [if_neg ne]; exact o
  · unfold put at h
    split at h
    · cases h
    · exact S.f j a h
  · unfold put at h
    split at h
    · exact absurd rfl h
    · rw [List.length_set]; exact S.w j h
  · unfold put at h ⊢
    split at h
    · cases h
    · split
      · simp
      · exact S.d j k a hjk h
theorem RS.hold (S : RS K F Hk H bp σ ρ) {i : Nat} {a : Addr} (hi : i < ρ.length) (hb : ∀ q ∈ bp, q.1 ≠ i) : RS K F Hk H ((i, a) :: bp) (σ.set i (some (.ref a))) (ρ.set i none) := by
  obtain ⟨ow, s⟩ := S.ow
  refine ⟨by rw [List.length_set, List.length_set, S.len], S.ex, S.fr, S.frk, ⟨_, s.hole _⟩, fun q hq => ?_⟩
  rcases List.mem_cons.mp hq with rfl | hq
  · exact List.getElem?_set_self (by rw [S.len]; exact hi)
  · rw [List.getElem?_set_ne (Ne.symm (hb q hq))]; exact S.bor q hq
theorem RS.unhold (S : RS K F Hk H ((i, a) :: bp) σ ρ) (hb : ∀ q ∈ bp, q.1 ≠ i) : RS K F Hk H bp (σ.set i none) (ρ.set i none) := by
  obtain ⟨ow, s⟩ := S.ow
  refine ⟨by rw [List.length_set, List.length_set, S.len], S.ex, S.fr, S.frk, ⟨_, s.hole _⟩, fun q hq => ?_⟩
  rw [List.getElem?_set_ne (Ne.symm (hb q hq))]; exact S.bor q (List.mem_cons_of_mem _ hq)
theorem RS.less (S : RS K F Hk H (p :: bp) σ ρ) : RS K F Hk H bp σ ρ := ⟨S.len, S.ex, S.fr, S.frk, S.ow, fun q hq => S.bor q (List.mem_cons_of_mem _ hq)⟩
theorem RS.aside (S : RS K F Hk H bp σ ρ) {dx : Addr} {fs : List (Str × V)} (hd : Hk dx = some (.xd fs)) : RS K (upd F dx (.xd fs)) (del Hk dx) H bp σ ρ := by
  have nx : NoX Hk (del Hk dx) := fun a o h n => by
    unfold del
    rw [if_neg (fun z => by subst z; rw [hd] at h; cases h; exact n _ rfl)]
    exact h
  have le : ∀ a o, del Hk dx a = some o → Hk a = some o := fun a o h => by
    unfold del at h
    split at h
    · cases h
    · exact h
  obtain ⟨ow, s⟩ := S.ow
  refine ⟨S.len, fun a o h => S.ex a o (le a o h), fun a o h => ?_, fun a o h => ?_, ⟨ow, fun i x h => ?_, fun i a h => ?_, s.w, s.d⟩, S.bor⟩
  · by_cases e : a = dx
    · subst e; rw [upd_same] at h; cases h; exact S.ex _ _ hd
    · rw [upd_ne e] at h; exact S.fr a o h
  · by_cases e : a = dx
    · subst e; exact del_same
    · rw [upd_ne e] at h; rw [del_ne e]; exact S.frk a o h
  · obtain ⟨v, e1, o⟩ := s.s i x h
    exact ⟨v, e1, o.sub nx⟩
  · obtain ⟨h1, h2, h3⟩ := s.f i a h
    have ne : a ≠ dx := fun z => by subst z; rw [hd] at h1; cases h1
    exact ⟨by rw [del_ne ne]; exact h1, by rw [upd_ne ne]; exact h2, h3⟩
theorem RS.back_in {dx : Addr} {fs : List (Str × V)} (S : RS K (upd F dx (.xd fs)) Hk H bp σ ρ) (hF : F dx = none) : RS K F (upd Hk dx (.xd fs)) H bp σ ρ := by
  have hk : Hk dx = none := S.frk dx _ upd_same
  have ex := Ex.new (o := HO.xd fs) hk
  obtain ⟨ow, s⟩ := S.ow
  refine ⟨S.len, fun a o h => ?_, fun a o h => ?_, fun a o h => ?_, ⟨ow, fun i x h => ?_, fun i a h => ?_, s.w, s.d⟩, S.bor⟩
  · by_cases e : a = dx
    · subst e; rw [upd_same] at h; cases h; exact S.fr _ _ upd_same
    · rw [upd_ne e] at h; exact S.ex a o h
  · have ne : a ≠ dx := fun z => by subst z; rw [hF] at h; cases h
    exact S.fr a o (by rw [upd_ne ne]; exact h)
  · have ne : a ≠ dx := fun z => by subst z; rw [hF] at h; cases h
    rw [upd_ne ne]
    exact S.frk a o (by rw [upd_ne ne]; exact h)
  · obtain ⟨v, e1, o⟩ := s.s i x h
    exact ⟨v, e1, o.move ex fun _ _ _ z => z⟩
  · obtain ⟨h1, h2, h3⟩ := s.f i a h
    have ne : a ≠ dx := fun z => by subst z; rw [upd_same] at h2; cases h2
    exact ⟨by rw [upd_ne ne]; exact h1, by rw [upd_ne ne] at h2; exact h2, h3⟩
end
theorem RV.flat {K K' : PySem.W.Frag} {H H' : Hp} {x : MV} {v : V} (f : flatM x = true) (h : RV K H x v) : RV K' H' x v := by
  cases x <;> first | (simp [flatM] at f; done) | (unfold RV at h ⊢; exact h)
theorem XFs.flat {K K' : PySem.W.Frag} {H H' : Hp} : ∀ {xs : List (Str × MV)} {vs : List (Str × V)}, xs.all (fun p => flatM p.2) = true → XFs K H xs vs → XFs K' H' xs vs
  | [], _, _, h => h
  | (n, x) :: xs, vs, f, h => by
    obtain ⟨v, r, e1, e2, e3⟩ := h
    simp only [List.all_cons, Bool.and_eq_true] at f
    exact ⟨v, r, e1, e2.flat f.1, XFs.flat f.2 e3⟩
structure ExT (K : PySem.W.Frag) (mg : Str → Option Value) (y : Str) (x : Str) (b : Bool) : Prop where
  ex : ∃ C D, mg x = some (.ref C) ∧ mg y = some (.ref D) ∧ PySem.W.exmOne K (.ref C) (.ref D) = some b
def mTry (i : Nat) (tab : List (Str × Bool)) (mb : MS) (mh : MX → MS) : MS := fun ρ => match mb ρ with
  | .ok r => .ok r
  | .stuck => .stuck
  | .exc e ρ1 => match tab.lookup e.cls with
    | some true => if decide (i < ρ1.length) && e.fs.all (fun p => flatM p.2) then (match mh e (ρ1.set i none) with
      | .ok (.rt v, ρ2) => .ok (.rt v, ρ2)
      | .ok (f, ρ2) => .ok (f, ρ2.set i none)
      | _ => .stuck) else .stuck
    | some false => .exc e ρ1
    | none => .stuck
def XIn (F : Hp) (e : MX) (d : Option Addr) : Prop := (e.fs = [] ∧ d = none) ∨ ∃ dx vfs, d = some dx ∧ F dx = some (.xd vfs) ∧ ∀ K H, XFs K H e.fs vfs
def cH (c : Ct) (i : Nat) (a : Addr) (e : MX) (d : Option Addr) : Ct := ⟨c.K, c.mg, fun _ _ _ _ => False, i :: c.bs, fun F bp => (∃ bq, bp = (i, a) :: bq ∧ c.J F bq) ∧ XIn F e d, fun F F1 bp x h => by
  obtain ⟨⟨bq, e1, e2⟩, h2⟩ := h
  refine ⟨⟨bq, e1, c.Jm _ _ _ x e2⟩, ?_⟩
  rcases h2 with h2 | ⟨dx, vfs, q1, q2, q3⟩
  · exact .inl h2
  · exact .inr ⟨dx, vfs, q1, x _ _ q2, q3⟩⟩
section
variable {X : Cx} {c : Ct} {y n : Str} {i : Nat} {body suite : List Stmt} {b₀ : Stmt} {np pos pos' : Pos} {tab : List (Str × Bool)} {mb : MS} {mh : MX → MS}
theorem lookup_mem : ∀ {tab : List (Str × Bool)} {x : Str} {b : Bool}, tab.lookup x = some b → (x, b) ∈ tab
  | [], _, _, h => by simp at h
  | (z, k) :: tab, x, b, h => by
    rw [List.lookup_cons] at h
    by_cases e : x = z
    · subst e
      simp at h
      subst h
      exact List.mem_cons_self ..
    · have : (x == z) = false := by simpa using e
      rw [this] at h
      exact List.mem_cons_of_mem _ (lookup_mem h)
theorem ms_try (hs : X.stack = X.env :: X.outer) (hf : X.env.frame = some X.env.locals) (hN : X.N.Nodup) (hi : X.N[i]? = some n) (hln : X.env.kindOf n = some .local) (hg : Gl X y) (tk : L2N.Takes X c.W) (ht : ∀ p ∈ tab, ExT X.K X.mg y p.1 p.2) (hne : ∃ D, X.mg y = some (.ref D))
    (hb : ∀ (W : WX) (pn : List (Addr × Obj)) (xe : Value → Shared → Prop), L2N.Takes (X.tr pn xe) W → PassesOwn (model X.prog X.w) X.A X.env xe → PSs (X.tr pn xe) body (rdS ⟨c.K, c.mg, W, c.bs, c.J, c.Jm⟩ mb))
    (hsu : ∀ (a : Addr) (oe : Obj) (C : Addr) (d : Option Addr) (pn : List (Addr × Obj)) (e : MX), X.mg e.cls = some (.ref C) → (e.cls, true) ∈ tab → L2N.Zn (.ref C) d oe → (∃ vs, oe.data = .fields vs) → PSs (X.suite a ((a, oe) :: pn)) (b₀ :: suite) (rdS (cH c i a e d) (mh e)))
    (hbs : c.bs.contains i = false := by rfl) (hK : c.K = X.K := by rfl) (hmg : c.mg = X.mg := by rfl) (hdb : (y == ("__debug__" : Str)) = false := by decide) :
    PS X (.Try body [.ExceptHandler (some (.Name y np)) (some n) (b₀ :: suite) pos'] [] [] pos) (rdS c (mTry i tab mb mh)) := by
  obtain ⟨Dy, hDy⟩ := hne
  have z := L2N.ps_try_as (x := y) (c := .ref Dy) (np := np) (pos := pos) (pos' := pos') (tb := fun W => rdS ⟨c.K, c.mg, W, c.bs, c.J, c.Jm⟩ mb) (Wout := c.W)
    (ts := fun a cls d D σ H => ∃ e C, X.mg e.cls = some (.ref C) ∧ cls = .ref C ∧ (e.cls, true) ∈ tab ∧ rdS (cH c i a e d) (mh e) D σ H) hs hf hN hi hln ⟨hg, hdb, .inl hDy⟩ tk hb
    (fun a oe cls d pn hz hv => ⟨fun pins s σ H D I ⟨e, C, h1, h2, h3, h4⟩ => (hsu a oe C d pn e h1 h3 (by rw [← h2]; exact hz) hv).run pins s σ H D I h4⟩)
  refine PSw z fun D σ H h => ?_
  obtain ⟨F, Hk, bp, ρ, S, h⟩ := h
  refine ⟨F, Hk, bp, ρ, S, ?_⟩
  unfold mTry at h
  cases em : mb ρ with
  | stuck => rw [em] at h; exact h
  | ok r =>
    rw [em] at h
    obtain ⟨f, ρ'⟩ := r
    cases f <;> exact h
  | exc e ρ1 =>
    rw [em] at h
    intro Hk' H' σ' cls d x S1 er
    obtain ⟨C, g1, g2, g3⟩ := er
    subst g2
    have g1' : X.mg e.cls = some (.ref C) := by rw [← hmg]; exact g1
    cases el : tab.lookup e.cls with
    | none => simp only [el] at h; exact h.elim
    | some b =>
      obtain ⟨C', D', k1, k2, k3⟩ := (ht _ (lookup_mem el)).ex
      rw [g1'] at k1
      cases k1
      rw [hDy] at k2
      cases k2
      refine ⟨b, k3, fun hyes a ha => ?_, fun hno => ?_⟩
      · subst hyes
        simp only [el] at h
        split at h
        · rename_i hc
          simp only [Bool.and_eq_true, decide_eq_true_eq] at hc
          refine ⟨e, C, g1', rfl, lookup_mem el, ?_⟩
          have hbq : ∀ q ∈ bp, q.1 ≠ i := nb S.2.1 hbs
          -- the state of the clause
          have main : ∃ F2 Hk2, RS c.K F2 Hk2 H' ((i, a) :: bp) (σ'.set i (some (.ref a))) (ρ1.set i none) ∧ Ex F F2 ∧ XIn F2 e d ∧ ∀ Hk3 H3 bq σ3 ρ3, Ex Hk2 Hk3 → RS c.K F2 Hk3 H3 bq σ3 ρ3 → ∃ Hk4, Ex Hk' Hk4 ∧ RS c.K F Hk4 H3 bq σ3 ρ3 ∧ Ex Hk3 Hk4 := by
            rcases g3 with g3 | ⟨dx, vfs, q1, q2, q3⟩
            · exact ⟨F, Hk', S1.hold hc.1 hbq, Ex.refl _, .inl g3, fun Hk3 H3 bq σ3 ρ3 x3 S3 => ⟨Hk3, x3, S3, Ex.refl _⟩⟩
            · have fn : F dx = none := by
                cases e0 : F dx with
                | none => rfl
                | some o => have := S1.frk dx o e0; rw [q2] at this; cases this
              refine ⟨_, _, (S1.hold hc.1 hbq).aside q2, Ex.new fn, .inr ⟨dx, vfs, q1, upd_same, fun K H => q3.flat hc.2⟩, fun Hk3 H3 bq σ3 ρ3 x3 S3 => ⟨_, fun b o hb => ?_, S3.back_in fn, Ex.new (S3.frk dx _ upd_same)⟩⟩
              by_cases e0 : b = dx
              · subst e0; rw [q2] at hb; cases hb; exact upd_same
              · rw [upd_ne e0]
                exact x3 _ _ (by rw [del_ne e0]; exact hb)
          obtain ⟨F2, Hk2, S2, xF, xi, out⟩ := main
          refine ⟨F2, Hk2, (i, a) :: bp, _, ⟨S2, ?_, ⟨bp, rfl, c.Jm _ _ _ xF S.2.2⟩, xi⟩, ?_⟩
          · show i :: bp.map (·.1) = i :: c.bs
            rw [S.2.1]
          cases eh : mh e (ρ1.set i none) with
          | stuck => rw [eh] at h; exact h.elim
          | exc e2 ρ2 => rw [eh] at h; exact h.elim
          | ok r =>
            obtain ⟨f, ρ2⟩ := r
            rw [eh] at h
            cases f with
            | nx =>
              intro Hk3 H3 σ3 x3 S3
              obtain ⟨Hk4, x4, S4, _⟩ := out Hk3 H3 _ _ _ x3 S3
              exact h Hk4 H3 _ (x.trans x4) (S4.unhold hbq)
            | br =>
              intro Hk3 H3 σ3 x3 S3
              obtain ⟨Hk4, x4, S4, _⟩ := out Hk3 H3 _ _ _ x3 S3
              exact h Hk4 H3 _ (x.trans x4) (S4.unhold hbq)
            | ct =>
              intro Hk3 H3 σ3 x3 S3
              obtain ⟨Hk4, x4, S4, _⟩ := out Hk3 H3 _ _ _ x3 S3
              exact h Hk4 H3 _ (x.trans x4) (S4.unhold hbq)
            | rt v =>
              intro Hk3 H3 σ3 w x3 hq S3
              obtain ⟨Hk4, x4, S4, _⟩ := out Hk3 H3 _ _ _ x3 S3
              exact h Hk4 H3 _ w (x.trans x4) (fun q hq' => hq q (List.mem_cons_of_mem _ hq')) S4.less
        · exact h.elim
      · subst hno
        simp only [el] at h
        exact h Hk' H' σ' _ d x S1 ⟨C, g1, rfl, g3⟩
end
end Tm
set_option Elab.async false
set_option linter.all false
set_option maxRecDepth 100000
set_option maxHeartbeats 2000000
namespace Tm
open PySem L2 PySem.Spec PyProof.Rows
open Evl (Ex ex_rd ex_l ex_t)
def mRaise0 (x : Str) : MS := fun ρ => .exc ⟨x, []⟩ ρ
structure Cl0 (K : PySem.W.Frag) (mg : Str → Option Value) (x : Str) : Prop where
  ex : ∃ C, mg x = some (.ref C) ∧ PySem.W.excIn K C PySem.HandSPX.veTail "ValueError.__new__" = true ∧ PySem.W.keepIn K (.ref C) = true ∧ PySem.W.subIn K (.ref C) (.type "BaseException") = some true ∧ PySem.W.typeIn K (.ref C) = some (.type "type")
structure Cl1 (P : Program) (w : World) (K : PySem.W.Frag) (mg : Str → Option Value) (base : Heap) (x f : Str) : Prop where
  ex : ∃ C fI fd ps, OwX K mg x C fI ∧ PySem.W.findIn K (.ref C) f = some none ∧ FnOk P w K mg base (L2N.CX P w) 2 fI fd ps (spI1 K f) ∧ L2.Binds K fd ps []
structure Cl2 (P : Program) (w : World) (K : PySem.W.Frag) (mg : Str → Option Value) (base : Heap) (x f g : Str) : Prop where
  ex : ∃ C fI fd ps, OwX K mg x C fI ∧ PySem.W.findIn K (.ref C) f = some none ∧ PySem.W.findIn K (.ref C) g = some none ∧ FnOk P w K mg base (L2N.CX P w) 2 fI fd ps (spI2 K f g) ∧ L2.Binds K fd ps []
section
variable {X : Cx} {c : Ct} {x f g m : Str} {k j : Nat}
theorem ms_raise0 {p p2 p3 pos : Pos} (Z : Cl0 X.K X.mg x) (hc : X.calm = true) (tk : L2N.Takes X c.W) (hg : Gl X x) (hmg : c.mg = X.mg := by rfl) (hdb : (x == ("__debug__" : Str)) = false := by decide) :
    PS X (.Raise (some (.Call (.Name x p) [.Constant (.str m) j p2] [] p3)) none pos) (rdS c (mRaise0 x)) := by
  obtain ⟨C, h1, h2, h3, h4, h5⟩ := Z.ex
  refine PSw (L2N.ps_raise hc tk (L2N.pmk_own (m := m) (j := j) F.excBase_ValueError h2 h1 h3 (raises_own h4 h5) hg hdb)) fun D σ H ⟨F, Hk, bp, ρ, S, h⟩ => ?_
  exact h _ _ _ _ _ (Ex.refl _) S.1 ⟨C, by rw [hmg]; exact h1, rfl, .inl ⟨rfl, rfl⟩⟩
end
section
variable {prog : Program} {w : World} {A : Around} {E : Value → Shared → Prop} {s : Shared} {K : PySem.W.Frag} {x D : Addr} {ox : Obj} {od : Option Obj}
theorem findObj_any {C : Addr} {name : Str} {a g : Value} (hc : (PySem.W.clsIn K C).isSome = true) (ha : PySem.W.findIn K (.ref C) name = some (some a)) (hg : PySem.W.specialIn K a "__get__" = some (some g)) (ht : PySem.W.takesIn K a = some true) : PySem.W.findObj K C od name = some (.bind g a) := by
  obtain ⟨cd, hc⟩ := Option.isSome_iff_exists.mp hc
  unfold PySem.W.findObj
  rw [hc, Option.bind_some, ha, Option.bind_some]
  simp [hg, ht]
open PySem.W PySem.Calls in
theorem class_any {Q : Option Value → Shared → Prop} (c : ExcC K D) (X : K.In s.heap) (I : InstAt s.heap x ox D od) (h : Q (some (.ref D)) { s with toks := s.toks + 1 }) : wpAny (model prog w) A (getAttr? (.ref x) "__class__") Q E s := by
  have hf : findObj K D od "__class__" = some (.bind (.builtin "getset_descriptor.__get__") (.builtin "object.__class__")) := findObj_any (by obtain ⟨cd, hc, _⟩ := any_some c.hd; rw [hc]; rfl) c.ha c.hn c.ht
  obtain ⟨hp, g, d, t, os⟩ := s
  have L0 := I.type (M := model prog w)
  have L1 := looks_findIn (M := model prog w) X c.hg
  have L2 := looks_findIn (M := model prog w) X c.hk
  have L3 := looks_find (M := model prog w) X I hf
  have sub : Looks (model prog w) hp (isInstance (.ref x) (.type "BaseException")) true := L0.andThen (looks_subIn X c.hs)
  have z0 : (false && onTheHeap (Value.builtin "BaseException.__getattribute__")) = false := rfl
  have z2 : (Value.builtin "BaseException.__getattribute__" == Value.builtin "object.__getattribute__") = false := by decide +kernel
  have z1 : (onTheHeap (Value.ref D) && Value.builtin "BaseException.__getattribute__" == Value.builtin "object.__getattribute__") = false := by rw [z2]; rfl
  unfold getAttr? getAttrBy? getAttrBy
  refine wpAny_bind (wpAny_mkText (wpAny_bind (wpAny_attempt (wpAny_holding (wpAny_bind (L0.at (wpAny_bind (L1.at ?_))))))))
  show wpAny _ _ (if (onTheHeap (Value.ref D) && Value.builtin "BaseException.__getattribute__" == Value.builtin "object.__getattribute__") = true then _ else _) _ _ _
  rw [z1, if_neg Bool.false_ne_true]
  unfold getAttrByItsOwn hookBefore
  refine wpAny_bind ?_
  rw [if_pos (show onTheHeap (Value.ref D) = true from rfl)]
  refine L2.at ?_
  refine wpAny_bind (wpAny_attempt (wpAny_holding ?_))
  unfold callGetattribute
  rw [z0, if_neg Bool.false_ne_true]
  unfold boundAndCalled
  rw [PySem.F.excAttr_ValueError.ga.bind (.ref x)]
  refine wpAny_bind (wpAny_pure ?_)
  show wpAny _ _ (call (.builtin "BaseException.__getattribute__") [.ref x, .str "__class__" t]) _ _ _
  refine wpAny_call (codeAny_call_builtin PySem.F.excAttr_ValueError.ga.plain PySem.F.entry_bexc_ga ?_)
  refine @check_slot (model prog w) _ _ ⟨hp, g, d, t + 1, os⟩ "BaseException.__getattribute__" "BaseException" "__getattribute__" (.ref x) [.str "__class__" t] [] _ (by decide +kernel) (by decide +kernel) sub (PySem.F.args_bexc_ga (.ref x) (.str "__class__" t)) ?_
  unfold Builtin.«object.__getattribute__»
  refine wpAny_bind (wpAny_of_eq (a := ((Value.ref x : Value), [Value.str "__class__" t])) (by first | rfl | (simp only [slotArgs]; rfl)) ?_)
  refine wpAny_bind (wpAny_pure (wpAny_bind (L0.at (wpAny_bind (L3.at ?_)))))
  show wpAny _ _ (holding [Value.builtin "object.__class__"] (call (.builtin "getset_descriptor.__get__") [.builtin "object.__class__", .ref x, .ref D]) >>= ret) _ _ _
  refine wpAny_bind (wpAny_holding (wpAny_call (class_get (s := ⟨hp, g, d, t + 1, os⟩) (ox := ox) (od := od) X I c.hm ?_)))
  refine wpAny_pure ?_
  show wpAny _ _ (handedOut (.ref D)) _ _ _
  rw [handedOut_of (v := .ref D) rfl]
  first
    | exact wpAny_pure (wpAny_pure h)
    | exact wpAny_pure h
    | exact wpAny_pure (wpAny_bind (wpAny_pure (wpAny_pure h)))
open PySem.W PySem.Calls in
theorem kitx_any (c : ExcC K D) : KitX K (.ref x) (.ref D) (fun h => InstAt h x ox D od) where
  ty := fun _ _ _ I => I.type
  it := fun _ _ X _ => by
    obtain ⟨cdD, hcD, _⟩ := any_some c.hd
    unfold clsIn at hcD
    split at hcD
    · rename_i c' d' cd' sl' ho
      intro A' Q' E' s' k q
      unfold isType loadHead
      exact wpAny_bind (wpAny_loadPart (k _ _ (X _ _ ho)) (wpAny_pure q))
    · cases hcD
  ne := fun h tp dd its n sl X htp => by
    obtain ⟨cdD, hcD, _⟩ := any_some c.hd
    refine Bool.eq_false_iff.mpr fun q => ?_
    have e : D = tp := Value.ref.inj (beq_iff_eq.mp q)
    subst e
    unfold clsIn at hcD
    split at hcD
    · rename_i c' d' cd' sl' ho
      have z := (X _ _ ho).symm.trans htp
      cases z
    · cases hcD
  ca := fun X I k => class_any c X I k
end
def rIsX (K : PySem.W.Frag) (D a : Addr) (d : Option Addr) : List V → Hp → VK → Prop := fun xs H Q => ∃ (c : V) (cv : Value) (b : Bool), xs = [.ref a, c] ∧ (∀ u, RelV c u → u = cv) ∧ PySem.W.kitOne K (.ref D) cv = some b ∧ (d = none ∨ ∃ dd fs, d = some dd ∧ H dd = some (.xd fs)) ∧ Q (.bl b) H
theorem call_isX {X : Cx} {a D : Addr} {oe : Obj} {d : Option Addr} (hm : (a, oe) ∈ X.pn) (C : ExcC X.K D) (hz : Zc (.ref D) d oe) (hf : ∃ vs, oe.data = .fields vs) : CallR X (.builtin "isinstance") (rIsX X.K D a d) := by
  intro pins s σ H xs us Q I r h
  obtain ⟨c, cv, b, rfl, hcv, e, hd, q⟩ := h
  cases r with
  | cons rx rr =>
    cases rr with
    | cons rt rr =>
      cases rr
      cases rx
      have ec := hcv _ rt
      subst ec
      obtain ⟨hget, _⟩ := I.pin (a, oe) (List.mem_append.mpr (.inl hm))
      obtain ⟨vs, hv⟩ := hf
      have J : ∃ od, PySem.W.InstAt s.heap a oe D od := by
        rcases hd with hd | ⟨dd, fs, hd, hh⟩
        · exact ⟨none, hget, hz.1, by unfold PySem.W.notCls; rw [hv] <;> rfl, by rw [hz.2, hd]; trivial⟩
        · obtain ⟨mA, hns, _⟩ := I.hok dd _ hh
          obtain ⟨od, ho, _⟩ := lookIn_ns hns
          exact ⟨some od, hget, hz.1, by unfold PySem.W.notCls; rw [hv] <;> rfl, by rw [hz.2, hd]; exact ho⟩
      obtain ⟨od, J⟩ := J
      exact PySem.W.kia_one (kitx_any C) I.kIn J e (fun z => nomatch z) fun tk => ⟨.bl b, H, I.kept (t' := tk) fun _ _ z => z, rfl, q⟩
def mExIs (e : MX) (tab : List (Str × Bool)) : ME := fun ρ => match tab.lookup e.cls with
  | some b => .ok (.bl b, ρ)
  | none => .stuck
theorem XFs.look {K : PySem.W.Frag} {H : Hp} {f : Str} {x : MV} : ∀ {xs : List (Str × MV)} {vs : List (Str × V)}, XFs K H xs vs → xs.lookup f = some x → ∃ v, vs.lookup f = some v ∧ RV K H x v
  | [], _, _, h => by simp at h
  | (n, y) :: xs, vs, r, h => by
    obtain ⟨v, rr, e1, e2, e3⟩ := r
    subst e1
    rw [List.lookup_cons] at h ⊢
    cases eq : f == n with
    | true => rw [eq] at h; cases h; exact ⟨v, rfl, e2⟩
    | false => rw [eq] at h; exact XFs.look e3 h
section
variable {X : Cx} {c : Ct} {a C : Addr} {oe : Obj} {d : Option Addr} {pn : List (Addr × Obj)} {e : MX} {i : Nat} {n f y : Str} {p p1 p2 pos : Pos}
theorem me_isXG {tab : List (Str × Bool)} {v : V} {cv : Value} (hm : (a, oe) ∈ X.pn) (T : ExcC X.K C) (hz : Zc (.ref C) d oe) (hf : ∃ vs, oe.data = .fields vs) (hN : X.N[i]? = some n) (hv : Vis X.env.scope n) (hi : X.mg "isinstance" = none) (hg : Gl X "isinstance") (he : PE X (.Name y p2) (tC v)) (hc : ∀ u, RelV v u → u = cv)
    (ht : ∀ b, tab.lookup e.cls = some b → PySem.W.kitOne X.K (.ref C) cv = some b)
    (hd : (n == ("__debug__" : Str)) = false := by decide) (hcd : (n == ("__classdict__" : Str)) = false := by decide) :
    PE X (.Call (.Name "isinstance" p) [.Name n p1, .Name y p2] [] pos) (rdE (cH c i a e d) (mExIs e tab)) := by
  have ha : PA X [.Name n p1, .Name y p2] (tCons (tVar i) (tCons (tC v) tNil)) := pa_cons (pe_var (i := i) hN hv hd hcd) (pa_cons he pa_nil)
  refine PEw (pe_callB (call_isX hm T hz hf) hg hi (by decide +kernel) ha (by decide) (by decide)) fun σ H Q ⟨F, Hk, bp, ρ, S, h⟩ => ?_
  obtain ⟨⟨bq, e1, e2⟩, xi⟩ := S.2.2
  refine ⟨.ref a, S.1.bor (i, a) (by rw [e1]; exact List.mem_cons_self ..), ?_⟩
  unfold mExIs at h
  cases el : tab.lookup e.cls with
  | none => rw [el] at h; exact h.elim
  | some b =>
    rw [el] at h
    refine ⟨v, cv, b, rfl, hc, ht b el, ?_, h _ _ _ (Ex.refl _) S.1 (RV.bl.mpr rfl)⟩
    rcases xi with ⟨_, z⟩ | ⟨dx, vfs, q1, q2, q3⟩
    · exact .inl z
    · exact .inr ⟨dx, vfs, q1, S.1.fr _ _ q2⟩
theorem me_isX {tab : List (Str × Bool)} (hm : (a, oe) ∈ X.pn) (T : ExcC X.K C) (hz : Zc (.ref C) d oe) (hf : ∃ vs, oe.data = .fields vs) (hN : X.N[i]? = some n) (hv : Vis X.env.scope n) (hi : X.mg "isinstance" = none) (hg : Gl X "isinstance") (hy : Gl X y) {Dy : Addr} (my : X.mg y = some (.ref Dy))
    (ht : ∀ b, tab.lookup e.cls = some b → PySem.W.kitOne X.K (.ref C) (.ref Dy) = some b)
    (hd : (n == ("__debug__" : Str)) = false := by decide) (hcd : (n == ("__classdict__" : Str)) = false := by decide) (hyd : (y == ("__debug__" : Str)) = false := by decide) :
    PE X (.Call (.Name "isinstance" p) [.Name n p1, .Name y p2] [] pos) (rdE (cH c i a e d) (mExIs e tab)) := me_isXG hm T hz hf hN hv hi hg (pe_glob hy my (v := .ref Dy) rfl hyd) (fun _ r => r) ht hd hcd
end
theorem fa_nil {α : Type} {P : α → Prop} : ∀ p ∈ ([] : List α), P p := fun _ h => nomatch h
theorem fa_cons {α : Type} {P : α → Prop} {x : α} {l : List α} (h : P x) (t : ∀ p ∈ l, P p) : ∀ p ∈ x :: l, P p := fun p hp => by
  rcases List.mem_cons.mp hp with rfl | hp
  · exact h
  · exact t p hp
def xcB (K : PySem.W.Frag) (C : Addr) (fs : List Str) : Bool := xfB K C && decide (PySem.W.findIn K (.ref C) "__class__" = some (some (.builtin "object.__class__"))) && decide (PySem.W.specialIn K (.builtin "object.__class__") "__get__" = some (some (.builtin "getset_descriptor.__get__"))) && decide (PySem.W.takesIn K (.builtin "object.__class__") = some true) && decide (PySem.W.mroIn K C (.type "object") = some true) && fs.all (fun f => decide (PySem.W.findIn K (.ref C) f = some none))
structure XcF (K : PySem.W.Frag) (mg : Str → Option Value) (fs : List Str) (x : Str) : Prop where
  ex : ∃ C, mg x = some (.ref C) ∧ xcB K C fs = true
structure KiT (K : PySem.W.Frag) (mg : Str → Option Value) (y x : Str) (b : Bool) : Prop where
  ex : ∃ C D, mg x = some (.ref C) ∧ mg y = some (.ref D) ∧ PySem.W.kitOne K (.ref C) (.ref D) = some b
structure XcG (K : PySem.W.Frag) (C : Addr) (fs : List Str) : Prop where
  xf : XfC K C
  xc : ExcC K C
  no : ∀ f ∈ fs, PySem.W.findIn K (.ref C) f = some none
theorem xcB_ok {K : PySem.W.Frag} {C : Addr} {fs : List Str} (h : xcB K C fs = true) : XcG K C fs := by
  unfold xcB at h
  simp only [Bool.and_eq_true, decide_eq_true_eq, List.all_eq_true] at h
  obtain ⟨⟨⟨⟨⟨h1, h2⟩, h3⟩, h4⟩, h5⟩, h6⟩ := h
  have T := xfB_ok h1
  exact ⟨T, ⟨T.ga, T.gg, T.exC, T.hdC, h2, h3, h4, h5⟩, h6⟩
theorem xc_at {K : PySem.W.Frag} {mg : Str → Option Value} {fs ts : List Str} {tab : List (Str × Bool)} {x : Str} {C : Addr} (Xs : ∀ x ∈ ts, XcF K mg fs x) (ht : tab.all (fun p => !p.2 || ts.contains p.1) = true) (hC : mg x = some (.ref C)) (hT : (x, true) ∈ tab) : XcG K C fs := by
  have h := List.all_eq_true.mp ht _ hT
  simp at h
  obtain ⟨C', h1, h2⟩ := (Xs x h).ex
  rw [hC] at h1
  cases h1
  exact xcB_ok h2
section
variable {X : Cx} {c : Ct} {a C : Addr} {oe : Obj} {d : Option Addr} {pn : List (Addr × Obj)} {e : MX} {i : Nat} {n f y : Str} {p p1 p2 pos : Pos} {fs : List Str} {tab tab2 : List (Str × Bool)}
theorem mx_isG (hm : (a, oe) ∈ X.pn) (G : XcG X.K C fs) (Ks : ∀ b, tab2.lookup e.cls = some b → KiT X.K X.mg y e.cls b) (ney : ∃ D, X.mg y = some (.ref D)) (hC : X.mg e.cls = some (.ref C)) (hz : L2N.Zn (.ref C) d oe) (hv : ∃ vs, oe.data = .fields vs) (hN : X.N[i]? = some n) (hl : Vis X.env.scope n) (hi : X.mg "isinstance" = none) (hg : Gl X "isinstance") (hy : Gl X y)
    (hd : (n == ("__debug__" : Str)) = false := by decide) (hcd : (n == ("__classdict__" : Str)) = false := by decide) (hyd : (y == ("__debug__" : Str)) = false := by decide) :
    PE X (.Call (.Name "isinstance" p) [.Name n p1, .Name y p2] [] pos) (rdE (cH c i a e d) (mExIs e tab2)) := by
  obtain ⟨Dy, my⟩ := ney
  refine me_isX hm G.xc hz.zc hv hN hl hi hg hy my (fun b hb => ?_) hd hcd hyd
  obtain ⟨C', D', k1, k2, k3⟩ := (Ks _ hb).ex
  rw [hC] at k1
  cases k1
  rw [my] at k2
  cases k2
  exact k3
theorem mx_is (G : XcG X.K C fs) (Ks : ∀ p ∈ tab2, KiT X.K X.mg y p.1 p.2) (ney : ∃ D, X.mg y = some (.ref D)) (hC : X.mg e.cls = some (.ref C)) (hz : L2N.Zn (.ref C) d oe) (hv : ∃ vs, oe.data = .fields vs) (hN : X.N[i]? = some n) (hl : Vis X.env.scope n) (hi : X.mg "isinstance" = none) (hg : Gl X "isinstance") (hy : Gl X y)
    (hd : (n == ("__debug__" : Str)) = false := by decide) (hcd : (n == ("__classdict__" : Str)) = false := by decide) (hyd : (y == ("__debug__" : Str)) = false := by decide) :
    PE (X.suite a ((a, oe) :: pn)) (.Call (.Name "isinstance" p) [.Name n p1, .Name y p2] [] pos) (rdE (cH c i a e d) (mExIs e tab2)) :=
  mx_isG (X := X.suite a ((a, oe) :: pn)) List.mem_cons_self G (fun _ hb => Ks _ (lookup_mem hb)) ney hC hz hv hN hl hi hg hy hd hcd hyd
end
end Tm
set_option Elab.async false
set_option linter.all false
set_option maxRecDepth 100000
set_option maxHeartbeats 2000000
namespace Tm
open PySem L2
open Evl (Ex ex_rd ex_l ex_t)
section
variable {X : Cx} {c : Ct} {p pos apos cpos : Pos} {o e : Expr} {es : List Expr} {a : ME} {m : MA}
def smE (f : Str → List MV → Option MV) (z : Str) (ys : List MV) (ρ2 : Env) : Res (MV × Env) := match f z ys with | some w => .ok (w, ρ2) | none => .stuck
def mSm (f : Str → List MV → Option MV) (a : ME) (b : MA) : ME := fun ρ => (a ρ).bind fun x ρ1 => match x with
  | .str z => (b ρ1).bind (smE f z)
  | _ => .stuck
def SmS (K : PySem.W.Frag) (f : Str → List MV → Option MV) (r : V → List V → Hp → VK → Prop) : Prop := ∀ (z : Str) (ys : List MV) (w : MV) (us : List V) (Hk H : Hp) (Q : VK), f z ys = some w → Ex Hk H → RVs K Hk ys us → (∀ u, RV K Hk w u → Q u H) →
  (∀ q ob, H q = none → RV K (upd Hk q ob) w (.ref q) → Q (.ref q) (upd H q ob)) → r (.str z) us H Q
theorem rd_sm {f : Str → List MV → Option MV} {r : V → List V → Hp → VK → Prop} (s : SmS c.K f r) {σ : St} {H : Hp} {Q : VK} (h : rdE c (mSm f a m) σ H Q) : tBM c.K "str" r (rdE c a) (rdA c m) σ H Q := by
  obtain ⟨F, Hk, bp, ρ, S, h⟩ := h
  refine rdw (bE postE S h) fun v H1 ⟨Hk1, x, ρ1, x1, S1, r1, h1⟩ => ?_
  cases x with
  | str z =>
    rw [RV.str.mp r1]
    refine ⟨rfl, ?_⟩
    refine rdAw (bA postE S1 h1) fun us H2 ⟨Hk2, ys, ρ2, x2, S2, r2, h2⟩ => ?_
    have h2 : okE c F Hk2 bp σ Q (match f z ys with | some w => .ok (w, ρ2) | none => .stuck) := h2
    cases ef : f z ys with
    | none => rw [ef] at h2; exact h2.elim
    | some w =>
      rw [ef] at h2
      exact s z ys w us Hk2 H2 Q ef S2.1.ex r2 (fun u ru => h2 _ _ u (Ex.refl _) S2.1 ru) fun q ob hq ru => h2 _ _ _ (Ex.new (S2.1.ex.back hq)) (S2.1.new hq) ru
  | _ => exact h1.elim
theorem me_sm {f : Str → List MV → Option MV} {r : V → List V → Hp → VK → Prop} {id : String} {name : Str} (s : SmS c.K f r) (slot : Slot "str" name id) (hty : typeOf (.builtin id) = pure (.type "method_descriptor")) (hm : MtR X id r) (ho : PE X o (rdE c a)) (ha : PA X (e :: es) (rdA c m)) (hK : c.K = X.K := by rfl)
    (hbase : attributeBase o name X.env (eval o X.env) = eval o X.env := by rfl)
    (hfew : ((backTo cpos (starEach (e :: es) X.env)).all (fun x => !x.1) && (backToKw cpos (keywordEach [] X.env)).all (fun x => x.1.isSome)
      && decide ((e :: es).length + ([] : List Keyword).length + (if ([] : List Keyword).isEmpty then 0 else 1) < 30)) = true := by rfl)
    (hline : (apos.endLine == cpos.line) = true := by rfl) (hs : starEach (e :: es) X.env = (false, eval e X.env) :: starEach es X.env := by rfl) (hplain : (backTo cpos (starEach es X.env)).any (·.1) = false := by rfl) :
    PE X (.Call (.Attribute o name apos) (e :: es) [] cpos) (rdE c (mSm f a m)) :=
  PEw (pe_bm PySem.F.plainAttrs_str slot hty hm ho ha hbase hfew hline hs hplain) fun σ H Q h => by
    have := rd_sm s h
    rw [hK] at this
    exact this
end
def strsOf : List MV → Option (List Str)
  | [] => some []
  | .str z :: r => (match strsOf r with | some l => some (z :: l) | none => none)
  | _ :: _ => none
theorem strs_rv {K : PySem.W.Frag} {H : Hp} : ∀ {xs : List MV} {ss : List Str} {vs : List V}, strsOf xs = some ss → RVs K H xs vs → vs = ss.map V.str
  | [], ss, vs, h, r => by cases h; exact RVs.nil.mp r
  | .str z :: xs, ss, vs, h, r => by
    obtain ⟨v, us, rfl, r1, r2⟩ := RVs.cons.mp r
    unfold strsOf at h
    cases e : strsOf xs with
    | none => rw [e] at h; cases h
    | some l =>
      rw [e] at h
      cases h
      rw [RV.str.mp r1, strs_rv e r2]; rfl
  | .non :: _, _, _, h, _ => by cases h
  | .bl _ :: _, _, _, h, _ => by cases h
  | .int _ :: _, _, _, h, _ => by cases h
  | .tup _ :: _, _, _, h, _ => by cases h
  | .lst _ :: _, _, _, h, _ => by cases h
  | .own _ :: _, _, _, h, _ => by cases h
  | .raw _ :: _, _, _, h, _ => by cases h
  | .scr _ :: _, _, _, h, _ => by cases h
  | .fnc _ :: _, _, _, h, _ => by cases h
  | .obj _ _ :: _, _, _, h, _ => by cases h
  | .dct _ _ :: _, _, _, h, _ => by cases h
  | .dow _ _ :: _, _, _, h, _ => by cases h
  | .dot _ _ :: _, _, _, h, _ => by cases h
def joinM (z : Str) (ss : List Str) : Option MV := if decide ((ss.map (·.length)).sum + ss.length * z.length ≤ 16777216) then some (.str (Txt.join z ss)) else none
def smJoin : Str → List MV → Option MV
  | z, [.lst xs] => (strsOf xs).bind (joinM z)
  | z, [.tup xs] => (strsOf xs).bind (joinM z)
  | _, _ => none
theorem strs_map {K : PySem.W.Frag} {H : Hp} : ∀ (ss : List Str), RVs K H (ss.map MV.str) (ss.map V.str)
  | [] => RVs.nil.mpr rfl
  | s :: ss => RVs.cons.mpr ⟨_, _, rfl, RV.str.mpr rfl, strs_map ss⟩
theorem ss_join {K : PySem.W.Frag} : SmS K smJoin (fun x xs H Q => ∃ a p, ∃ ys : List Str, x = .str a ∧ xs = [.ref p] ∧ (SqL K H p (ys.map V.str) ∨ SqT K H p (ys.map V.str)) ∧ (ys.map (·.length)).sum + ys.length * a.length ≤ 16777216 ∧ Q (.str (Txt.join a ys)) H) := by
  intro z ys w us Hk H Q e ex r q qn
  have fin : ∀ ss, joinM z ss = some w → (ss.map (·.length)).sum + ss.length * z.length ≤ 16777216 ∧ w = .str (Txt.join z ss) := fun ss h => by
    unfold joinM at h
    split at h
    · rename_i hd
      exact ⟨of_decide_eq_true hd, by cases h; rfl⟩
    · cases h
  unfold smJoin at e
  split at e
  · rename_i xs
    obtain ⟨v, rfl, rv⟩ := rvs1 r
    obtain ⟨p, vs, rfl, h1, s1⟩ := RV.lst.mp rv
    cases es : strsOf xs with
    | none => rw [es] at e; cases e
    | some ss =>
      rw [es] at e
      obtain ⟨f1, rfl⟩ := fin ss e
      have := strs_rv es s1
      subst this
      exact ⟨z, p, ss, rfl, rfl, .inl (SqL.of (ex _ _ h1)), f1, q _ (RV.str.mpr rfl)⟩
  · rename_i xs
    obtain ⟨v, rfl, rv⟩ := rvs1 r
    obtain ⟨p, vs, rfl, h1, s1⟩ := RV.tup.mp rv
    cases es : strsOf xs with
    | none => rw [es] at e; cases e
    | some ss =>
      rw [es] at e
      obtain ⟨f1, rfl⟩ := fin ss e
      have := strs_rv es s1
      subst this
      exact ⟨z, p, ss, rfl, rfl, .inr (ex_t ex h1), f1, q _ (RV.str.mpr rfl)⟩
  · cases e
def smSplit : Str → List MV → Option MV
  | z, [.str b] => if (b.length == 0) = false ∧ z.length + 2 ≤ sizeLine then some (.lst ((Txt.split z b).map MV.str)) else none
  | _, _ => none
theorem ss_split {K : PySem.W.Frag} : SmS K smSplit (fun x xs H Q => ∃ a b, x = .str a ∧ xs = [.str b] ∧ (b.length == 0) = false ∧ a.length + 2 ≤ sizeLine ∧ rNewStrs (Txt.split a b) H Q) := by
  intro z ys w us Hk H Q e ex r q qn
  unfold smSplit at e
  split at e
  · rename_i b
    split at e
    · rename_i h
      cases e
      obtain ⟨v, rfl, rv⟩ := rvs1 r
      rw [RV.str.mp rv]
      exact ⟨z, b, rfl, rfl, h.1, h.2, fun p hp => qn p _ hp (RV.lst.mpr ⟨p, _, rfl, upd_same, strs_map _⟩)⟩
    · cases e
  · cases e
def smIndex : Str → List MV → Option MV
  | z, [.str b] => (match Builtin.Str.occurrences z b 0 z.length 1 with | i :: _ => some (.int (i : Nat)) | [] => none)
  | _, _ => none
theorem ss_index {K : PySem.W.Frag} : SmS K smIndex (fun x xs H Q => ∃ a b i rest, x = .str a ∧ xs = [.str b] ∧ Builtin.Str.occurrences a b 0 a.length 1 = i :: rest ∧ Q (.int (i : Nat)) H) := by
  intro z ys w us Hk H Q e ex r q qn
  unfold smIndex at e
  split at e
  · rename_i b
    split at e
    · rename_i i rest h
      cases e
      obtain ⟨v, rfl, rv⟩ := rvs1 r
      rw [RV.str.mp rv]
      exact ⟨z, b, i, rest, rfl, rfl, h, q _ (RV.int.mpr rfl)⟩
    · cases e
  · cases e
def mWhileN : Nat → MT → MS → MS
  | 0, _, _ => fun _ => .stuck
  | n + 1, t, b => fun ρ => (t ρ).bind fun k ρ1 => if k then ((b ρ1).bind fun f ρ2 => match f with
    | .nx => mWhileN n t b ρ2
    | .ct => mWhileN n t b ρ2
    | .br => .ok (.nx, ρ2)
    | .rt v => .ok (.rt v, ρ2)) else .ok (.nx, ρ1)
section
variable {X : Cx} {c : Ct} {pos : Pos} {t : MT} {b : MS}
theorem okS.wl {F Hk : Hp} {bp : List (Nat × Addr)} {D : Ends} {n : Nat} {N : St → Hp → Prop} (hN : ∀ Hk' H' σ' ρ', Ex Hk Hk' → RS c.K F Hk' H' bp σ' ρ' → okS c F Hk' bp D (mWhileN n t b ρ') → N σ' H') {r : Res (Fl × Env)}
    (h : okS c F Hk bp D (r.bind fun f ρ2 => match f with | .nx => mWhileN n t b ρ2 | .ct => mWhileN n t b ρ2 | .br => .ok (.nx, ρ2) | .rt v => .ok (.rt v, ρ2))) : okS c F Hk bp { D with nx := N, ct := N, bk := D.nx } r := by
  cases r with
  | stuck => exact h
  | exc e ρ => exact h
  | ok q =>
    obtain ⟨f, ρ1⟩ := q
    cases f with
    | nx => exact fun Hk1 H1 σ1 x1 S1 => hN Hk1 H1 σ1 ρ1 x1 S1 (okS.mono x1 h)
    | ct => exact fun Hk1 H1 σ1 x1 S1 => hN Hk1 H1 σ1 ρ1 x1 S1 (okS.mono x1 h)
    | br => exact h
    | rt x => exact h
end
end Tm
set_option Elab.async false
set_option linter.all false
set_option maxRecDepth 100000
set_option maxHeartbeats 2000000
namespace Tm
open PySem L2
open Evl (Ex ex_rd ex_l ex_t)
inductive BA where
  | v (x : MV) | b (i : Nat)
abbrev MB := Env → Res (List BA × Env)
def idxB : List BA → List Nat
  | [] => []
  | .v _ :: r => idxB r
  | .b i :: r => i :: idxB r
def MV.held : MV → Bool
  | .own _ => true
  | .obj _ _ => true
  | .dow _ _ => true
  | .dct _ _ => true
  | _ => false
def fill : List BA → Env → Option (List MV)
  | [], _ => some []
  | .v x :: r, ρ => (match fill r ρ with | some xs => some (x :: xs) | none => none)
  | .b i :: r, ρ => (match ρ[i]?, fill r ρ with | some (some x), some xs => if x.held then some (x :: xs) else none | _, _ => none)
def back (ρ : Env) : List Nat → Env → Env
  | [], _ => ρ
  | i :: is, os => back (ρ.set i (os.head?).join) is os.tail
def BVs (K : PySem.W.Frag) (Hk : Hp) (σ : St) : List BA → List V → Prop
  | [], vs => vs = []
  | .v x :: r, vs => ∃ v us, vs = v :: us ∧ RV K Hk x v ∧ BVs K Hk σ r us
  | .b i :: r, vs => ∃ v us, vs = v :: us ∧ σ[i]? = some (some v) ∧ BVs K Hk σ r us
theorem BVs.mono {K : PySem.W.Frag} {Hk Hk' : Hp} {σ : St} (e : Ex Hk Hk') : ∀ {xs : List BA} {vs : List V}, BVs K Hk σ xs vs → BVs K Hk' σ xs vs
  | [], _, h => h
  | .v x :: r, vs, ⟨v, us, e1, e2, e3⟩ => ⟨v, us, e1, RV.mono e _ _ e2, BVs.mono e e3⟩
  | .b i :: r, vs, ⟨v, us, e1, e2, e3⟩ => ⟨v, us, e1, e2, BVs.mono e e3⟩
theorem BVs.length {K : PySem.W.Frag} {Hk : Hp} {σ : St} : ∀ {xs : List BA} {vs : List V}, BVs K Hk σ xs vs → vs.length = xs.length
  | [], _, h => by rw [show _ = [] from h]; rfl
  | .v x :: r, vs, ⟨v, us, e1, e2, e3⟩ => by rw [e1, List.length_cons, List.length_cons, e3.length]
  | .b i :: r, vs, ⟨v, us, e1, e2, e3⟩ => by rw [e1, List.length_cons, List.length_cons, e3.length]
def okBA (c : Ct) (F Hk : Hp) (bp : List (Nat × Addr)) (σ : St) (Q : List V → Hp → Prop) : Res (List BA × Env) → Prop
  | .ok (xs, ρ') => ∀ Hk' H' vs, Ex Hk Hk' → RS c.K F Hk' H' bp σ ρ' → BVs c.K Hk' σ xs vs → Q vs H'
  | .exc e ρ' => Wish c F Hk bp σ e ρ'
  | .stuck => False
theorem okBA.mono {c : Ct} {F Hk Hk' : Hp} {bp : List (Nat × Addr)} {σ : St} {Q : List V → Hp → Prop} {r : Res (List BA × Env)} (x : Ex Hk Hk') (h : okBA c F Hk bp σ Q r) : okBA c F Hk' bp σ Q r := by
  cases r with
  | ok a => exact fun Hk2 H2 v x2 => h Hk2 H2 v (x.trans x2)
  | exc e ρ => exact Wish.mono x h
  | stuck => exact h
end Tm
set_option Elab.async false
set_option linter.all false
set_option maxRecDepth 100000
set_option maxHeartbeats 2000000
namespace Tm
open PySem L2
open Evl (Ex ex_rd ex_l ex_t)
def cbE (f : MF) (args : List BA) (ρ : Env) : Res (MV × Env) := match fill args ρ with
  | some xs => (match f xs with | .ok (v, os) => .ok (v, back ρ (idxB args) os) | .exc e os => .exc e (back ρ (idxB args) os) | .stuck => .stuck)
  | none => .stuck
end Tm
set_option Elab.async false
set_option linter.all false
set_option maxRecDepth 100000
set_option maxHeartbeats 2000000
namespace Tm
open PySem L2
open Evl (Ex ex_rd ex_l ex_t)
def putM (f : Str) (v : MV) : List (Str × MV) → List (Str × MV)
  | [] => [(f, v)]
  | (g, x) :: r => if g = f then (g, v) :: r else (g, x) :: putM f v r
theorem look_eq {α : Type} {f g : Str} {x : α} {r : List (Str × α)} : ((g, x) :: r).lookup f = if g = f then some x else r.lookup f := by
  rw [List.lookup_cons]
  by_cases e : g = f
  · subst e; simp
  · rw [if_neg e]
    have : (f == g) = false := by simpa using fun z => e z.symm
    rw [this]
section
variable {K : PySem.W.Frag} {Hk H : Hp}
theorem OFs.fresh : ∀ {fs : List (Str × MV)} {vfs : List (Str × V)} {B : List Addr} {f : Str}, OFs K Hk H fs vfs B → fs.lookup f = none → vfs.lookup f = none ∧
    ∀ (Hk' H' : Hp) (x' : MV) (v' : V) (A1' : List Addr), Ex Hk Hk' → (∀ a ∈ B, ∀ o, H a = some o → H' a = some o) → OF K Hk' H' x' v' A1' → OFs K Hk' H' (putM f x' fs) (putF f v' vfs) (B ++ A1')
  | [], vfs, B, f, ⟨e1, e2⟩, _ => by
    subst e1 e2
    exact ⟨rfl, fun Hk' H' x' v' A1' ex k o' => ⟨v', [], A1', [], rfl, by simp, o', rfl, rfl⟩⟩
  | (n, y) :: fs, vfs, B, f, ⟨v, r, C, D, e1, e2, o1, o2⟩, h => by
    subst e1 e2
    rw [look_eq] at h
    by_cases e : n = f
    · rw [if_pos e] at h; cases h
    · rw [if_neg e] at h
      obtain ⟨g1, g4⟩ := OFs.fresh o2 h
      refine ⟨by rw [look_eq, if_neg e]; exact g1, fun Hk' H' x' v' A1' ex k o' => ?_⟩
      unfold putM putF
      rw [if_neg e, if_neg e]
      exact ⟨v, _, C, D ++ A1', rfl, by simp, o1.move ex fun a ha => k a (by simp [ha]), g4 Hk' H' x' v' A1' ex (fun a ha => k a (by simp [ha])) o'⟩
theorem OFs.len : ∀ {fs : List (Str × MV)} {vfs : List (Str × V)} {B : List Addr}, OFs K Hk H fs vfs B → vfs.length = fs.length
  | [], vfs, B, ⟨e1, _⟩ => by rw [e1]; rfl
  | _ :: fs, vfs, B, ⟨v, r, C, D, e1, e2, o1, o2⟩ => by rw [e1, List.length_cons, List.length_cons, o2.len]
theorem OV.obj {C : Str} {fs : List (Str × MV)} {v : V} {A : List Addr} : OV K Hk H (.obj C fs) v A ↔ ∃ p CA dx vfs B, v = .ref p ∧ A = p :: B ∧ PySem.W.nsIn K mainGlobals C = some (some (.ref CA)) ∧ H p = some (.ins CA dx vfs) ∧ OFs K Hk H fs vfs B ∧ (p :: B).Nodup := by
  unfold OV; rfl
theorem OF.own {xs : List MV} {v : V} {A : List Addr} : OF K Hk H (.own xs) v A ↔ ∃ p vs, v = .ref p ∧ A = [p] ∧ H p = some (.lst vs) ∧ RVs K Hk xs vs := by
  unfold OF; rfl
end
structure ObC (K : PySem.W.Frag) (C : Str) (fs : List Str) : Prop where
  ex : ∀ CA, PySem.W.nsIn K mainGlobals C = some (some (.ref CA)) → Cls K CA ∧ ∀ f ∈ fs, NoAttr K CA f
end Tm
set_option Elab.async false
set_option linter.all false
set_option maxRecDepth 100000
set_option maxHeartbeats 2000000
namespace Tm
open PySem L2
open Evl (Ex ex_rd ex_l ex_t)
structure ObM (P : Program) (w : World) (K : PySem.W.Frag) (mg : Str → Option Value) (base : Heap) (C m : Str) (k : Nat) (ps : List Str) (bs : List Nat) (f : MF) : Prop where
  ex : ∃ CA g fd, PySem.W.nsIn K mainGlobals C = some (some (.ref CA)) ∧ Cls K CA ∧ Meth K CA m g ∧ FnOk P w K mg base (L2N.CX P w) k g fd ps (spF K mg ps.length bs f) ∧ Binds K fd ps []
structure ObN (P : Program) (w : World) (K : PySem.W.Frag) (mg : Str → Option Value) (base : Heap) (C : Str) (k : Nat) (f : MF) : Prop where
  ex : ∃ CA g fd ps, PySem.W.nsIn K mainGlobals C = some (some (.ref CA)) ∧ mg C = some (.ref CA) ∧ Mk K CA g ∧ FnOk P w K mg base (L2N.CX P w) k g fd ps (spF K mg 1 [0] f) ∧ Binds K fd ps []
end Tm
set_option Elab.async false
set_option linter.all false
set_option maxRecDepth 100000
set_option maxHeartbeats 2000000
namespace Tm
open PySem L2
open Evl (Ex ex_rd ex_l ex_t)
def FnA (K : PySem.W.Frag) (a : Addr) : Prop := ∃ o, K.lookup a = some o ∧ o.cls = .type "function"
theorem FnA.ty {X : Cx} {pins : List (Addr × Obj)} {σ : St} {H : Hp} {s : Shared} {a : Addr} (I : Inv X pins σ H s) (h : FnA X.K a) : s.TypeIs (.ref a) "function" := by
  obtain ⟨o, h1, h2⟩ := h
  exact ⟨o, I.kIn _ _ h1, h2⟩
structure FnI (K : PySem.W.Frag) (N : List Str) : Prop where
  fn : ∀ x ∈ N, ∀ a, PySem.W.nsIn K mainGlobals x = some (some (.ref a)) → FnA K a
  inj : ∀ x ∈ N, ∀ y ∈ N, ∀ a, PySem.W.nsIn K mainGlobals x = some (some (.ref a)) → PySem.W.nsIn K mainGlobals y = some (some (.ref a)) → x = y
structure FnT (P : Program) (w : World) (K : PySem.W.Frag) (mg : Str → Option Value) (base : Heap) (T : List (Str × MF)) : Prop where
  ex : ∀ x f, T.lookup x = some f → ∀ a, PySem.W.nsIn K mainGlobals x = some (some (.ref a)) → ∃ fd ps, FnOk P w K mg base (L2N.CX P w) 2 a fd ps (spF K mg 1 [] f) ∧ PySem.W.keepIn K (.ref a) = true ∧ Binds K fd ps []
end Tm
set_option Elab.async false
set_option linter.all false
set_option maxRecDepth 100000
set_option maxHeartbeats 2000000
namespace Tm
open PySem L2
open Evl (Ex ex_rd ex_l ex_t)
section
variable {X : Cx} {c : Ct} {C x f : Str} {fl : List Str} {i : Nat} {p p2 pos apos cpos : Pos} {e : Expr} {es : List Expr}
structure FnG (K : PySem.W.Frag) (mg : Str → Option Value) (x : Str) : Prop where
  ex : ∃ a, mg x = some (.ref a) ∧ PySem.W.nsIn K mainGlobals x = some (some (.ref a))
end
end Tm
set_option Elab.async false
set_option linter.all false
set_option maxRecDepth 100000
set_option maxHeartbeats 2000000
namespace Tm
open PySem L2
open Evl (Ex ex_rd ex_l ex_t)
structure ObX (P : Program) (w : World) (K : PySem.W.Frag) (mg : Str → Option Value) (base : Heap) (C m : Str) (k : Nat) (ps : List Str) (sp : Sp) : Prop where
  ex : ∃ CA g fd, PySem.W.nsIn K mainGlobals C = some (some (.ref CA)) ∧ Cls K CA ∧ Meth K CA m g ∧ FnOk P w K mg base (L2N.CX P w) k g fd ps sp ∧ Binds K fd ps []
end Tm
set_option Elab.async false
set_option linter.all false
set_option maxRecDepth 100000
set_option maxHeartbeats 2000000
namespace Tm
open PySem L2
theorem nr {α : Sort _} {a b : α} (h : a = b) : a = b := h
section
variable {α β : Type} {a b : ME} {ρ ρ1 : Env} {r : Option MV} {x y z : MV}
@[simp] theorem bind_ok {x : α} {f : α → Env → Res (β × Env)} : (Res.ok (x, ρ)).bind f = f x ρ := nr rfl
@[simp] theorem bind_exc {e : MX} {f : α → Env → Res (β × Env)} : (Res.exc e ρ : Res (α × Env)).bind f = .exc e ρ := nr rfl
@[simp] theorem bind_stuck {f : α → Env → Res (β × Env)} : (Res.stuck : Res (α × Env)).bind f = .stuck := nr rfl
@[simp] theorem b0_ok {x : α} {f : α → Env → Res (β × Env)} : (Res.ok (x, ρ)).b0 f = f x ρ := nr rfl
@[simp] theorem mVar_ap {i : Nat} : mVar i (r :: ρ) = match (r :: ρ)[i]? with
  | some (some (.own xs)) => .ok (.lst xs, (r :: ρ).set i (some (.lst xs)))
  | some (some (.obj _ _)) => .stuck
  | some (some (.dow _ _)) => .stuck
  | some (some (.dot _ _)) => .stuck
  | some (some x) => .ok (x, (r :: ρ))
  | _ => .stuck := nr rfl
@[simp] theorem mC_ap  : mC x (r :: ρ) = .ok (x, (r :: ρ)) := nr rfl
@[simp] theorem mOp_ap {f : MV → MV → Option MV} : mOp f a b (r :: ρ) = (a (r :: ρ)).bind fun x ρ1 => (b ρ1).bind fun y ρ2 => match f x y with | some z => .ok (z, ρ2) | none => .stuck := nr rfl
@[simp] theorem mTest_ap  : mTest a (r :: ρ) = (a (r :: ρ)).bind fun x ρ1 => match x with | .bl b => .ok (b, ρ1) | _ => .stuck := nr rfl
@[simp] theorem mChain_ap {f g : MV → MV → Option MV} {d : ME} : mChain f g a b d (r :: ρ) = (a (r :: ρ)).bind fun x ρ1 => (b ρ1).bind fun y ρ2 => match f x y with
  | some (.bl true) => (d ρ2).bind fun z ρ3 => match g y z with | some w => .ok (w, ρ3) | none => .stuck
  | some (.bl false) => .ok (.bl false, ρ2)
  | _ => .stuck := nr rfl
@[simp] theorem mAndT_ap {a b : MT} : mAndT a b (r :: ρ) = (a (r :: ρ)).bind fun x ρ1 => if x then b ρ1 else .ok (false, ρ1) := nr rfl
@[simp] theorem mOrT_ap {a b : MT} : mOrT a b (r :: ρ) = (a (r :: ρ)).bind fun x ρ1 => if x then .ok (true, ρ1) else b ρ1 := nr rfl
@[simp] theorem mNotT_ap {a : MT} : mNotT a (r :: ρ) = (a (r :: ρ)).bind fun x ρ1 => .ok (!x, ρ1) := nr rfl
@[simp] theorem mBv_ap {t : MT} : mBv t (r :: ρ) = (t (r :: ρ)).bind fun x ρ1 => .ok (.bl x, ρ1) := nr rfl
@[simp] theorem mNil_ap  : mNil (r :: ρ) = .ok ([], (r :: ρ)) := nr rfl
@[simp] theorem mCons_ap {b : MA} : mCons a b (r :: ρ) = (a (r :: ρ)).bind fun x ρ1 => (b ρ1).bind fun xs ρ2 => .ok (x :: xs, ρ2) := nr rfl
@[simp] theorem mTup_ap {a : MA} : mTup a (r :: ρ) = (a (r :: ρ)).bind fun xs ρ1 => if szOk xs.length then .ok (.tup xs, ρ1) else .stuck := nr rfl
@[simp] theorem mLst_ap {a : MA} : mLst a (r :: ρ) = (a (r :: ρ)).bind fun xs ρ1 => if szOk xs.length then .ok (.lst xs, ρ1) else .stuck := nr rfl
@[simp] theorem mLstO_ap {a : MA} : mLstO a (r :: ρ) = (a (r :: ρ)).bind fun xs ρ1 => if szOk xs.length then .ok (.own xs, ρ1) else .stuck := nr rfl
@[simp] theorem mNo_ap  : mNo (r :: ρ) = .ok (none, (r :: ρ)) := nr rfl
@[simp] theorem mPart_ap  : mPart a (r :: ρ) = (a (r :: ρ)).bind fun x ρ1 => match x with | .int i => .ok (some i, ρ1) | _ => .stuck := nr rfl
@[simp] theorem mSl_ap {l h : Env → Res (Option Int × Env)} : mSl a l h (r :: ρ) = (a (r :: ρ)).bind fun x ρ1 => (l ρ1).bind fun i ρ2 => (h ρ2).bind fun j ρ3 => match fSl x i j with | some z => .ok (z, ρ3) | none => .stuck := nr rfl
@[simp] theorem gSet_ap {i : Nat} : gSet i x (r :: ρ) = if i < (r :: ρ).length then some ((r :: ρ).set i (some x)) else none := nr rfl
@[simp] theorem mAsg_ap {g : MG} : mAsg a g (r :: ρ) = (a (r :: ρ)).bind fun x ρ1 => match g x ρ1 with | some ρ2 => .ok (.nx, ρ2) | none => .stuck := nr rfl
@[simp] theorem mSetO_ap {i : Nat} : mSetO i a (r :: ρ) = (a (r :: ρ)).bind fun x ρ1 => if i < ρ1.length then .ok (.nx, ρ1.set i (some x)) else .stuck := nr rfl
@[simp] theorem mPass_ap  : mPass (r :: ρ) = .ok (.nx, (r :: ρ)) := nr rfl
@[simp] theorem mSeq_ap {a b : MS} : mSeq a b (r :: ρ) = (a (r :: ρ)).bind fun f ρ1 => match f with | .nx => b ρ1 | f => .ok (f, ρ1) := nr rfl
@[simp] theorem mIfS_ap {t : MT} {a b : MS} : mIfS t a b (r :: ρ) = (t (r :: ρ)).bind fun x ρ1 => if x then a ρ1 else b ρ1 := nr rfl
@[simp] theorem mRet_ap  : mRet a (r :: ρ) = (a (r :: ρ)).bind fun x ρ1 => .ok (.rt x, ρ1) := nr rfl
@[simp] theorem mDrop_ap  : mDrop a (r :: ρ) = (a (r :: ρ)).bind fun _ ρ1 => .ok (.nx, ρ1) := nr rfl
@[simp] theorem mMove_ap {i : Nat} : mMove i (r :: ρ) = match (r :: ρ)[i]? with
  | some (some (.obj _ _)) => .stuck
  | some (some x) => .ok (x, (r :: ρ).set i none)
  | _ => .stuck := nr rfl
@[simp] theorem mFz_ap  : mFz a (r :: ρ) = (a (r :: ρ)).bind fun x ρ1 => match fz x with | some y => .ok (y, ρ1) | none => .stuck := nr rfl
@[simp] theorem mCall_ap {f : MF} {a : MA} : mCall f a (r :: ρ) = (a (r :: ρ)).bind fun xs ρ1 => match f xs with
  | .ok (v, _) => .ok (v, ρ1)
  | .exc e _ => .exc e ρ1
  | .stuck => .stuck := nr rfl
@[simp] theorem mCall0_ap {f : MF} {a : MA} : mCall0 f a (r :: ρ) = (a (r :: ρ)).bind fun xs ρ1 => match f xs with
  | .ok (v, _) => .ok (v, ρ1)
  | _ => .stuck := nr rfl
@[simp] theorem mBlt_ap {f : List MV → Option MV} {a : MA} : mBlt f a (r :: ρ) = (a (r :: ρ)).bind fun xs ρ1 => match f xs with | some z => .ok (z, ρ1) | none => .stuck := nr rfl
def r1M (xs : List MV) (ρ1 : Env) : Res (List MV × Env) := match xs with
  | [.int j] => if inR j then .ok (rngM 0 1 j.toNat, ρ1) else .stuck
  | _ => .stuck
@[simp] theorem mR1_ap {a : MA} : mR1 a (r :: ρ) = (a (r :: ρ)).bind r1M := nr rfl
@[simp] theorem r1M_i {j : Int} (h : inR j = true) : r1M [.int j] ρ = .ok (rngM 0 1 j.toNat, ρ) := if_pos h
def lmM (f : List MV → List MV → Option (List MV × MV)) (i : Nat) (ys : List MV) (ρ1 : Env) : Res (MV × Env) := match ρ1[i]? with
  | some (some (.own xs)) => (match f xs ys with | some (zs, z) => .ok (z, ρ1.set i (some (.own zs))) | none => .stuck)
  | _ => .stuck
@[simp] theorem mLm_ap {f : List MV → List MV → Option (List MV × MV)} {i : Nat} {a : MA} : mLm f i a (r :: ρ) = if isOwn (r :: ρ) i then (a (r :: ρ)).bind (lmM f i) else .stuck := nr rfl
@[simp] theorem lmM_o {f : List MV → List MV → Option (List MV × MV)} {i : Nat} {xs ys : List MV} (h : ρ[i]? = some (some (.own xs))) : lmM f i ys ρ = (match f xs ys with | some (zs, z) => .ok (z, ρ.set i (some (.own zs))) | none => .stuck) := by unfold lmM; rw [h]
@[simp] theorem isOwn_o {i : Nat} {xs : List MV} (h : ρ[i]? = some (some (.own xs))) : isOwn ρ i = true := by unfold isOwn; rw [h]
@[simp] theorem has_o {i : Nat} {x : MV} (h : ρ[i]? = some (some x)) : has ρ i = true := by unfold has; rw [h]
@[simp] theorem flatM_i {k : Int} : flatM (.int k) = true := nr rfl
@[simp] theorem mItV_ap  : mItV a (r :: ρ) = (a (r :: ρ)).bind fun x ρ1 => match itemsOf x with | some xs => .ok (xs, ρ1) | none => .stuck := nr rfl
@[simp] theorem mYes_ap  : mYes (r :: ρ) = .ok (true, (r :: ρ)) := nr rfl
@[simp] theorem mFor_ap {i : MI} {g : MG} {b : MS} : mFor i g b (r :: ρ) = (i (r :: ρ)).bind fun xs ρ1 => mLoop g b xs ρ1 := nr rfl
@[simp] theorem mLcO_ap {it : MI} {g : Tgt} {t : MT} {vs : List Nat} : mLcO it g t a vs (r :: ρ) = (it (r :: ρ)).bind fun xs ρ1 => if perAt ρ1 vs then (mLcLoop g t a vs xs [] ρ1).b0 fun ys ρ2 => .ok (.own ys, backM ρ1 ρ2 vs) else .stuck := nr rfl
end
@[simp] theorem fz_lst {xs : List MV} : fz (.lst xs) = some (.lst xs) := nr rfl
@[simp] theorem fz_own {xs : List MV} : fz (.own xs) = some (.lst xs) := nr rfl
@[simp] theorem fz_tup {xs : List MV} : fz (.tup xs) = some (.tup xs) := nr rfl
@[simp] theorem fz_int {i : Int} : fz (.int i) = some (.int i) := nr rfl
@[simp] theorem fz_bl {i : Bool} : fz (.bl i) = some (.bl i) := nr rfl
@[simp] theorem fz_str {i : Str} : fz (.str i) = some (.str i) := nr rfl
@[simp] theorem fz_non : fz .non = some .non := nr rfl
@[simp] theorem fz_scr {i : List Int} : fz (.scr i) = some (.scr i) := nr rfl
section
variable {i j : Int}
@[simp] theorem fAdd_ii : fAdd (.int i) (.int j) = some (.int (i + j)) := nr rfl
@[simp] theorem fAdd_ss {a b : Str} : fAdd (.str a) (.str b) = if szOk (a.length + b.length) then some (.str (a ++ b)) else none := nr rfl
@[simp] theorem fAdd_ll {a b : List MV} : fAdd (.lst a) (.lst b) = if szOk (a.length + b.length) then some (.lst (a ++ b)) else none := nr rfl
@[simp] theorem fAdd_tt {a b : List MV} : fAdd (.tup a) (.tup b) = if szOk (a.length + b.length) then some (.tup (a ++ b)) else none := nr rfl
@[simp] theorem fMul_ii : fMul (.int i) (.int j) = if mulOk i j then some (.int (i * j)) else none := nr rfl
@[simp] theorem fDiv_ii : fDiv (.int i) (.int j) = if divOk j then some (.int (i.fdiv j)) else none := nr rfl
@[simp] theorem fMod_ii : fMod (.int i) (.int j) = if decide (j ≠ 0) then some (.int (i.fmod j)) else none := nr rfl
@[simp] theorem fPow_ii : fPow (.int i) (.int j) = if decide (0 ≤ j) && decide (j ≤ 1000000) && decide (i.natAbs < 2 ^ 64) then some (.int (i ^ j.toNat)) else none := nr rfl
@[simp] theorem fLt_ii : fLt (.int i) (.int j) = some (.bl (decide (i < j))) := nr rfl
@[simp] theorem fLe_ii : fLe (.int i) (.int j) = some (.bl (decide (i ≤ j))) := nr rfl
@[simp] theorem fGt_ii : fGt (.int i) (.int j) = some (.bl (decide (j < i))) := nr rfl
@[simp] theorem fGe_ii : fGe (.int i) (.int j) = some (.bl (decide (j ≤ i))) := nr rfl
@[simp] theorem fEq_ii : fEq (.int i) (.int j) = some (.bl (decide (i = j))) := nr rfl
@[simp] theorem fNe_ii : fNe (.int i) (.int j) = some (.bl (!decide (i = j))) := nr rfl
@[simp] theorem fEq_ss {a b : Str} : fEq (.str a) (.str b) = some (.bl (decide (a = b))) := nr rfl
@[simp] theorem fNe_ss {a b : Str} : fNe (.str a) (.str b) = some (.bl (!decide (a = b))) := nr rfl
@[simp] theorem bLen_l {a : List MV} : bLen [.lst a] = some (.int a.length) := nr rfl
@[simp] theorem bLen_t {a : List MV} : bLen [.tup a] = some (.int a.length) := nr rfl
@[simp] theorem bLen_c {a : List Int} : bLen [.scr a] = some (.int a.length) := nr rfl
@[simp] theorem bAbs_i : bAbs [.int i] = some (.int (if i < 0 then -i else i)) := nr rfl
@[simp] theorem bInt_i : bInt [.int i] = some (.int i) := nr rfl
@[simp] theorem bInt_b {k : Bool} : bInt [.bl k] = some (.int (if k then 1 else 0)) := nr rfl
@[simp] theorem fIx_l {a : List MV} : fIx (.lst a) (.int i) = atI a i := nr rfl
@[simp] theorem fIx_t {a : List MV} : fIx (.tup a) (.int i) = atI a i := nr rfl
@[simp] theorem fIx_c {a : List Int} : fIx (.scr a) (.int i) = (atI a i).map .int := nr rfl
@[simp] theorem itemsOf_l {a : List MV} : itemsOf (.lst a) = some a := nr rfl
@[simp] theorem itemsOf_t {a : List MV} : itemsOf (.tup a) = some a := nr rfl
@[simp] theorem itemsOf_c {a : List Int} : itemsOf (.scr a) = some (a.map .int) := nr rfl
@[simp] theorem bTuple_l {a : List MV} : bTuple [.lst a] = some (.tup a) := nr rfl
@[simp] theorem bTuple_t {a : List MV} : bTuple [.tup a] = some (.tup a) := nr rfl
@[simp] theorem lmAppend_1 {a : List MV} {y : MV} : lmAppend a [y] = if decide (a.length < sizeLine) then some (a ++ [y], .non) else none := nr rfl
end
@[simp] theorem nat_neg {k : Nat} : ((k : Int) < 0) = False := by simp
@[simp] theorem nat_toNat {k : Nat} : ((k : Int)).toNat = k := nr rfl
theorem szOk_small {n : Nat} (h : n ≤ 16777216) : szOk n = true := szOk_iff.mpr (by rw [sizeLine_eq]; exact h)
theorem atI_ge {α : Type} {xs : List α} {i : Int} (h : 0 ≤ i) : atI xs i = xs[i.toNat]? := by
  unfold atI ixN
  rw [if_pos h]
  by_cases e : i < xs.length
  · rw [if_pos e]; rfl
  · rw [if_neg e, List.getElem?_eq_none (by omega)]; rfl
@[simp] theorem atI_0 {α : Type} {xs : List α} : atI xs 0 = xs[0]? := atI_ge (by decide)
@[simp] theorem atI_1 {α : Type} {xs : List α} : atI xs 1 = xs[1]? := atI_ge (by decide)
@[simp] theorem atI_2 {α : Type} {xs : List α} : atI xs 2 = xs[2]? := atI_ge (by decide)
@[simp] theorem atI_3 {α : Type} {xs : List α} : atI xs 3 = xs[3]? := atI_ge (by decide)
@[simp] theorem atI_4 {α : Type} {xs : List α} : atI xs 4 = xs[4]? := atI_ge (by decide)
@[simp] theorem atI_5 {α : Type} {xs : List α} : atI xs 5 = xs[5]? := atI_ge (by decide)
@[simp] theorem atI_6 {α : Type} {xs : List α} : atI xs 6 = xs[6]? := atI_ge (by decide)
@[simp] theorem atI_7 {α : Type} {xs : List α} : atI xs 7 = xs[7]? := atI_ge (by decide)
@[simp] theorem atI_8 {α : Type} {xs : List α} : atI xs 8 = xs[8]? := atI_ge (by decide)
@[simp] theorem atI_9 {α : Type} {xs : List α} : atI xs 9 = xs[9]? := atI_ge (by decide)
@[simp] theorem atI_10 {α : Type} {xs : List α} : atI xs 10 = xs[10]? := atI_ge (by decide)
@[simp] theorem atI_11 {α : Type} {xs : List α} : atI xs 11 = xs[11]? := atI_ge (by decide)
@[simp] theorem atI_12 {α : Type} {xs : List α} : atI xs 12 = xs[12]? := atI_ge (by decide)
@[simp] theorem atI_13 {α : Type} {xs : List α} : atI xs 13 = xs[13]? := atI_ge (by decide)
@[simp] theorem atI_14 {α : Type} {xs : List α} : atI xs 14 = xs[14]? := atI_ge (by decide)
@[simp] theorem atI_15 {α : Type} {xs : List α} : atI xs 15 = xs[15]? := atI_ge (by decide)
theorem mulOk_l {i j : Int} (h1 : -(2 ^ 64) < i) (h2 : i < 2 ^ 64) : mulOk i j = true := by simp only [mulOk, Bool.or_eq_true, Bool.and_eq_true, decide_eq_true_eq]; exact .inl (.inl ⟨h1, h2⟩)
theorem mulOk_r {i j : Int} (h1 : -(2 ^ 64) < j) (h2 : j < 2 ^ 64) : mulOk i j = true := by simp only [mulOk, Bool.or_eq_true, Bool.and_eq_true, decide_eq_true_eq]; exact .inl (.inr ⟨h1, h2⟩)
theorem inR_of {i : Int} (h1 : -(2 ^ 62) ≤ i) (h2 : i < 2 ^ 62) : inR i = true := inR_iff.mpr ⟨h1, h2⟩
theorem loop_inv {g : MG} {b : MS} (I : Nat → Env → Prop) : ∀ (xs : List MV) (k : Nat) (ρ : Env), I k ρ → (∀ i x ρ, xs[i]? = some x → I (k + i) ρ → ∃ ρ1 ρ2, g x ρ = some ρ1 ∧ (b ρ1 = .ok (.nx, ρ2) ∨ b ρ1 = .ok (.ct, ρ2)) ∧ I (k + i + 1) ρ2) → ∃ ρ', mLoop g b xs ρ = .ok (.nx, ρ') ∧ I (k + xs.length) ρ'
  | [], k, ρ, h, _ => ⟨ρ, rfl, h⟩
  | x :: xs, k, ρ, h, hs => by
    obtain ⟨ρ1, ρ2, e1, e2, h2⟩ := hs 0 x ρ rfl h
    obtain ⟨ρ', e3, h3⟩ := loop_inv I xs (k + 1) ρ2 h2 (fun i y ρ hy hi => by
      have := hs (i + 1) y ρ (by simpa using hy) (by rw [show k + (i + 1) = k + 1 + i by omega]; exact hi)
      rw [show k + 1 + i + 1 = k + (i + 1) + 1 by omega]
      exact this)
    refine ⟨ρ', ?_, by rw [List.length_cons, show k + (xs.length + 1) = k + 1 + xs.length by omega]; exact h3⟩
    unfold mLoop
    rw [e1]
    rcases e2 with e2 | e2 <;> (simp only [e2, bind_ok]; exact e3)
theorem loop_rng {g : MG} {b : MS} {lo c : Int} {n : Nat} {ρ : Env} (I : Nat → Env → Prop) (h0 : I 0 ρ) (hs : ∀ i ρ, i < n → I i ρ → ∃ ρ1 ρ2, g (.int (lo + (i : Nat) * c)) ρ = some ρ1 ∧ (b ρ1 = .ok (.nx, ρ2) ∨ b ρ1 = .ok (.ct, ρ2)) ∧ I (i + 1) ρ2) :
    ∃ ρ', mLoop g b (rngM lo c n) ρ = .ok (.nx, ρ') ∧ I n ρ' := by
  obtain ⟨ρ', e, h⟩ := loop_inv I (rngM lo c n) 0 ρ h0 fun i x ρ hx hi => by
    have li := lt_get hx
    rw [rngM_len] at li
    rw [rngM_get li] at hx
    cases hx
    have := hs i ρ li (by simpa using hi)
    simpa using this
  rw [rngM_len, Nat.zero_add] at h
  exact ⟨ρ', e, h⟩
theorem loop_nxr {g : MG} {b : MS} {lo c : Int} {n : Nat} {ρ : Env} (I : Nat → Env → Prop) (h0 : I 0 ρ) (hs : ∀ i ρ, i < n → I i ρ → ∃ ρ1, g (.int (lo + (i : Nat) * c)) ρ = some ρ1 ∧ ∃ ρ2, b ρ1 = .ok (.nx, ρ2) ∧ I (i + 1) ρ2) :
    ∃ ρ', mLoop g b (rngM lo c n) ρ = .ok (.nx, ρ') ∧ I n ρ' := by
  refine loop_rng I h0 fun i ρ hi h => ?_
  obtain ⟨ρ1, e, ρ2, e2, h⟩ := hs i ρ hi h
  exact ⟨ρ1, ρ2, e, .inl e2, h⟩
def okD : Nat → MV → Bool
  | _, .non => true
  | _, .bl _ => true
  | _, .int _ => true
  | _, .str x => (PyData.str x).canLay0
  | n + 1, .tup xs => xs.all (okD n)
  | n + 1, .lst xs => xs.all (okD n)
  | _, _ => false
theorem okDs_to {n : Nat} (ih : ∀ x, okD n x = true → ∃ d, toD x = some d ∧ d.canLay0 = true ∧ d.depth ≤ n) : ∀ xs : List MV, xs.all (okD n) = true → ∃ ds, toDs xs = some ds ∧ PyData.canLayAll0 ds = true ∧ PyData.depthAll ds ≤ n
  | [], _ => ⟨[], rfl, by simp [PyData.canLayAll0], by simp [PyData.depthAll]⟩
  | x :: xs, h => by
    simp only [List.all_cons, Bool.and_eq_true] at h
    obtain ⟨d, e, c, p⟩ := ih x h.1
    obtain ⟨ds, es, cs, ps⟩ := okDs_to ih xs h.2
    refine ⟨d :: ds, by simp [toDs, e, es], by simp [PyData.canLayAll0, c, cs], by simp only [PyData.depthAll]; omega⟩
theorem okD_to : ∀ (n : Nat) (x : MV), okD n x = true → ∃ d, toD x = some d ∧ d.canLay0 = true ∧ d.depth ≤ n
  | n, .non, _ => ⟨_, rfl, rfl, by simp [PyData.depth]⟩
  | n, .bl _, _ => ⟨_, rfl, rfl, by simp [PyData.depth]⟩
  | n, .int _, _ => ⟨_, rfl, rfl, by simp [PyData.depth]⟩
  | n, .str x, h => ⟨.str x, rfl, by cases n <;> exact h, by simp [PyData.depth]⟩
  | 0, .tup _, h => by simp [okD] at h
  | 0, .lst _, h => by simp [okD] at h
  | n + 1, .tup xs, h => by
    obtain ⟨ds, e, c, p⟩ := okDs_to (okD_to n) xs h
    exact ⟨.tuple ds, by simp [toD, e], by simpa [PyData.canLay0] using c, by simp only [PyData.depth]; omega⟩
  | n + 1, .lst xs, h => by
    obtain ⟨ds, e, c, p⟩ := okDs_to (okD_to n) xs h
    exact ⟨.list ds, by simp [toD, e], by simpa [PyData.canLay0] using c, by simp only [PyData.depth]; omega⟩
  | n, .own _, h => by cases n <;> simp [okD] at h
  | n, .raw _, h => by cases n <;> simp [okD] at h
  | n, .scr _, h => by cases n <;> simp [okD] at h
  | n, .fnc _, h => by cases n <;> simp [okD] at h
  | n, .obj _ _, h => by cases n <;> simp [okD] at h
  | n, .dct _ _, h => by cases n <;> simp [okD] at h
  | n, .dow _ _, h => by cases n <;> simp [okD] at h
  | n, .dot _ _, h => by cases n <;> simp [okD] at h
theorem eqM_self {n : Nat} {x : MV} (hn : n ≤ 64) (h : okD n x = true) : eqM x x = some true := by
  unfold eqM
  by_cases hs : scalM x x = true
  · rw [if_pos hs]
    cases x <;> simp_all [scalM, sameM]
  · rw [if_neg hs]
    obtain ⟨d, e, c, p⟩ := okD_to n x h
    have hd : SeqAt.shaped d = true := by
      unfold SeqAt.shaped
      rw [c]
      simp
      omega
    rw [e]
    simp only [hd, Bool.and_self, if_true]
    rw [SeqAt.eqv_refl d c]
@[simp] theorem fEq_tt {xs : List MV} (h : xs.all (okD 20) = true) : fEq (.tup xs) (.tup xs) = some (.bl true) := by unfold fEq; rw [eqM_self (n := 21) (by decide) (x := .tup xs) h]; rfl
@[simp] theorem fNe_tt {xs : List MV} (h : xs.all (okD 20) = true) : fNe (.tup xs) (.tup xs) = some (.bl false) := by unfold fNe; rw [eqM_self (n := 21) (by decide) (x := .tup xs) h]; rfl
@[simp] theorem fEq_lle {xs : List MV} (h : xs.all (okD 20) = true) : fEq (.lst xs) (.lst xs) = some (.bl true) := by unfold fEq; rw [eqM_self (n := 21) (by decide) (x := .lst xs) h]; rfl
@[simp] theorem fNe_lle {xs : List MV} (h : xs.all (okD 20) = true) : fNe (.lst xs) (.lst xs) = some (.bl false) := by unfold fNe; rw [eqM_self (n := 21) (by decide) (x := .lst xs) h]; rfl
@[simp] theorem okD_i {n : Nat} {i : Int} : okD n (.int i) = true := by cases n <;> rfl
@[simp] theorem okD_b {n : Nat} {i : Bool} : okD n (.bl i) = true := by cases n <;> rfl
@[simp] theorem okD_n {n : Nat} : okD n .non = true := by cases n <;> rfl
@[simp] theorem fSl_t {xs : List MV} {lo hi : Option Int} : fSl (.tup xs) lo hi = some (.tup (cutM xs lo hi)) := nr rfl
@[simp] theorem fSl_l {xs : List MV} {lo hi : Option Int} : fSl (.lst xs) lo hi = some (.lst (cutM xs lo hi)) := nr rfl
@[simp] theorem cutM_none {xs : List MV} : cutM xs none none = xs := by simp [cutM, HT.sIx]
end Tm
set_option Elab.async false
set_option linter.all false
set_option maxRecDepth 100000
set_option maxHeartbeats 2000000
namespace Tm
open PySem L2
theorem mFn_ok {n : Nat} {m : MS} {xs : List MV} {v : MV} (h : ∃ ρ, m (xs.map some ++ List.replicate (n - xs.length) none) = .ok (.rt v, ρ)) : mFn n [] m xs = .ok (v, []) := by
  obtain ⟨ρ, h⟩ := h
  unfold mFn; rw [h]; rfl
theorem fmod_lt' {a b : Int} (h : 0 < b) : a.fmod b < b := Int.fmod_lt_of_pos a h
theorem fmod_ge' {a b : Int} (h : 0 < b) : 0 ≤ a.fmod b := Int.fmod_nonneg_of_pos a h
theorem nat_fmod (a b : Nat) : (a : Int).fmod (b : Int) = ((a % b : Nat) : Int) := by rw [Int.fmod_eq_emod_of_nonneg _ (Int.natCast_nonneg b)]; exact (Int.natCast_emod a b).symm
theorem nat_fdiv (a b : Nat) : (a : Int).fdiv (b : Int) = ((a / b : Nat) : Int) := by rw [Int.fdiv_eq_ediv_of_nonneg _ (Int.natCast_nonneg b)]; exact (Int.natCast_ediv a b).symm
theorem back_wipe : ∀ (vs : List Nat) (ρ ρ' : Env), ρ.length = ρ'.length → (∀ j, j ∉ vs → ρ'[j]? = ρ[j]?) → backM ρ ρ' vs = ρ := by
  have key : ∀ (vs : List Nat) (ρ ρ' : Env) (j : Nat), ρ.length = ρ'.length → (backM ρ ρ' vs)[j]? = if j ∈ vs then ρ[j]? else ρ'[j]? := by
    intro vs
    induction vs with
    | nil => intro ρ ρ' j hl; simp [backM]
    | cons v vs ih =>
      intro ρ ρ' j hl
      show (backM ρ (ρ'.set v ((ρ[v]?).join)) vs)[j]? = _
      rw [ih ρ _ j (by simp [hl])]
      by_cases e : j ∈ vs
      · simp [e]
      · by_cases e2 : j = v
        · subst e2
          by_cases hlt : j < ρ'.length
          · simp [e, List.getElem?_set_self hlt, show j < ρ.length by omega]
          · simp [e, List.getElem?_eq_none (show ρ'.length ≤ j by omega), List.getElem?_eq_none (show ρ.length ≤ j by omega)]
            omega
        · simp [e, e2, List.getElem?_set_ne (Ne.symm e2)]
  intro vs ρ ρ' hl h
  apply List.ext_getElem?
  intro j
  rw [key vs ρ ρ' j hl]
  by_cases e : j ∈ vs
  · simp [e]
  · simp [e, h j e]
theorem wipe_other {ρ ρ' : Env} {vs : List Nat} (hl : ρ.length = ρ'.length) (h : wipeM ρ' vs = wipeM ρ vs) : ∀ j, j ∉ vs → ρ'[j]? = ρ[j]? := by
  intro j hj
  have h1 := wipeM_get ρ vs j
  have h2 := wipeM_get ρ' vs j
  rw [if_neg (by simp [hj])] at h1 h2
  rw [← h1, ← h2, h]
theorem lc_map {g : Tgt} {e : ME} {vs : List Nat} {W : Env} (y : MV → MV) : ∀ (xs acc : List MV) (ρ : Env), (∀ x ∈ xs, ∃ ρ1, setT g x W = some ρ1 ∧ e ρ1 = .ok (y x, ρ1) ∧ wipeM ρ1 vs = W ∧ ρ1.length = W.length) → wipeM ρ vs = W → ρ.length = W.length → acc.length + xs.length ≤ sizeLine →
    ∃ ρ', mLcLoop g mYes e vs xs acc ρ = .ok (acc ++ xs.map y, ρ') ∧ wipeM ρ' vs = W ∧ ρ'.length = W.length
  | [], acc, ρ, _, hw, hl, _ => ⟨ρ, by simp [mLcLoop], hw, hl⟩
  | x :: xs, acc, ρ, h, hw, hl, hz => by
    obtain ⟨ρ1, e1, e2, e3, e4⟩ := h x (List.mem_cons_self ..)
    rw [List.length_cons] at hz
    obtain ⟨ρ', r1, r2, r3⟩ := lc_map (g := g) (e := e) (vs := vs) y xs (acc ++ [y x]) ρ1 (fun z hz => h z (List.mem_cons_of_mem _ hz)) e3 e4 (by rw [List.length_append, List.length_singleton]; omega)
    refine ⟨ρ', ?_, r2, r3⟩
    unfold mLcLoop
    rw [hw, e1]
    simp only [mYes, b0_ok, if_true, e2]
    rw [if_pos ⟨by omega, by rw [e4, hl]⟩, r1]
    simp
theorem mLcO_map {it : MI} {g : Tgt} {e : ME} {vs : List Nat} {ρ ρ1 : Env} {xs : List MV} (y : MV → MV) (hi : it ρ = .ok (xs, ρ1)) (hp : perAt ρ1 vs = true) (hx : ∀ x ∈ xs, ∃ ρ2, setT g x (wipeM ρ1 vs) = some ρ2 ∧ e ρ2 = .ok (y x, ρ2) ∧ wipeM ρ2 vs = wipeM ρ1 vs ∧ ρ2.length = ρ1.length) (hz : xs.length ≤ sizeLine) :
    mLcO it g mYes e vs ρ = .ok (.own (xs.map y), ρ1) := by
  obtain ⟨ρ', r1, r2, r3⟩ := lc_map (g := g) (e := e) (vs := vs) (W := wipeM ρ1 vs) y xs [] ρ1 (fun x h => by
    obtain ⟨ρ2, a, b, c, d⟩ := hx x h
    exact ⟨ρ2, a, b, c, by rw [d, wipeM_len]⟩) rfl (wipeM_len ..).symm (by simpa using hz)
  unfold mLcO
  rw [hi, bind_ok, if_pos hp, r1]
  simp only [b0_ok, List.nil_append]
  rw [back_wipe vs ρ1 ρ' (by rw [r3, wipeM_len]) (wipe_other (by rw [r3, wipeM_len]) r2)]
end Tm
set_option Elab.async false
set_option linter.all false
set_option maxRecDepth 100000
set_option maxHeartbeats 2000000
namespace Tm
open PySem L2
section
variable {α β : Type} {ρ : Env} {r : Option MV} {x f g y : Str} {a b : ME}
@[simp] theorem mRaise0_ap : mRaise0 x (r :: ρ) = .exc ⟨x, []⟩ (r :: ρ) := nr rfl
def tryM (i : Nat) (tab : List (Str × Bool)) (mh : MX → MS) (q : Res (Fl × Env)) : Res (Fl × Env) := match q with
  | .ok r => .ok r
  | .stuck => .stuck
  | .exc e ρ1 => match tab.lookup e.cls with
    | some true => if decide (i < ρ1.length) && e.fs.all (fun p => flatM p.2) then (match mh e (ρ1.set i none) with
      | .ok (.rt v, ρ2) => .ok (.rt v, ρ2)
      | .ok (f, ρ2) => .ok (f, ρ2.set i none)
      | _ => .stuck) else .stuck
    | some false => .exc e ρ1
    | none => .stuck
def endM (i : Nat) (q : Res (Fl × Env)) : Res (Fl × Env) := match q with
  | .ok (.rt v, ρ2) => .ok (.rt v, ρ2)
  | .ok (f, ρ2) => .ok (f, ρ2.set i none)
  | _ => .stuck
variable {i : Nat} {tab : List (Str × Bool)} {mb : MS} {mh : MX → MS} {e : MX} {q : Fl × Env}
@[simp] theorem mTry_ap : mTry i tab mb mh (r :: ρ) = tryM i tab mh (mb (r :: ρ)) := nr rfl
@[simp] theorem tryM_ok : tryM i tab mh (.ok q) = .ok q := nr rfl
@[simp] theorem tryM_exc (h : tab.lookup e.cls = some true) (h2 : i < ρ.length) (h3 : e.fs.all (fun p => flatM p.2) = true) : tryM i tab mh (.exc e ρ) = endM i (mh e (ρ.set i none)) := by
  unfold tryM
  simp only [h, h2, h3, decide_true, Bool.and_self, if_true]
  rfl
@[simp] theorem endM_nx : endM i (.ok (.nx, ρ)) = .ok (.nx, ρ.set i none) := nr rfl
@[simp] theorem endM_br : endM i (.ok (.br, ρ)) = .ok (.br, ρ.set i none) := nr rfl
@[simp] theorem endM_ct : endM i (.ok (.ct, ρ)) = .ok (.ct, ρ.set i none) := nr rfl
@[simp] theorem endM_rt {v : MV} : endM i (.ok (.rt v, ρ)) = .ok (.rt v, ρ) := nr rfl
@[simp] theorem mExIs_ap : mExIs e tab (r :: ρ) = match tab.lookup e.cls with | some b => .ok (.bl b, r :: ρ) | none => .stuck := nr rfl
theorem mFn_exc {n : Nat} {m : MS} {xs : List MV} {e : MX} (h : ∃ ρ, m (xs.map some ++ List.replicate (n - xs.length) none) = .exc e ρ) : mFn n [] m xs = .exc e [] := by
  obtain ⟨ρ, h⟩ := h
  unfold mFn; rw [h]; rfl
end
section
variable {i : Int} {b b' : Bool} {x y : Str}
@[simp] theorem fEq_nn : fEq .non .non = some (.bl true) := nr rfl
@[simp] theorem fNe_nn : fNe .non .non = some (.bl false) := nr rfl
@[simp] theorem fEq_ni : fEq .non (.int i) = some (.bl false) := nr rfl
@[simp] theorem fEq_in : fEq (.int i) .non = some (.bl false) := nr rfl
@[simp] theorem fNe_ni : fNe .non (.int i) = some (.bl true) := nr rfl
@[simp] theorem fNe_in : fNe (.int i) .non = some (.bl true) := nr rfl
@[simp] theorem fEq_ns : fEq .non (.str x) = some (.bl false) := nr rfl
@[simp] theorem fEq_sn : fEq (.str x) .non = some (.bl false) := nr rfl
@[simp] theorem fNe_ns : fNe .non (.str x) = some (.bl true) := nr rfl
@[simp] theorem fNe_sn : fNe (.str x) .non = some (.bl true) := nr rfl
@[simp] theorem fEq_bb : fEq (.bl b) (.bl b') = some (.bl (decide (b = b'))) := nr rfl
@[simp] theorem fNe_bb : fNe (.bl b) (.bl b') = some (.bl (!decide (b = b'))) := nr rfl
@[simp] theorem fEq_is : fEq (.int i) (.str x) = some (.bl false) := nr rfl
@[simp] theorem fEq_si : fEq (.str x) (.int i) = some (.bl false) := nr rfl
@[simp] theorem fIsN_n : fIsN .non .non = some (.bl true) := nr rfl
@[simp] theorem fIsN_i : fIsN (.int i) .non = some (.bl false) := nr rfl
@[simp] theorem fIsN_s : fIsN (.str x) .non = some (.bl false) := nr rfl
@[simp] theorem fIsN_t {xs : List MV} : fIsN (.tup xs) .non = some (.bl false) := nr rfl
@[simp] theorem fIsN_b : fIsN (.bl b) .non = some (.bl false) := nr rfl
@[simp] theorem fNotN_n : fNotN .non .non = some (.bl false) := nr rfl
@[simp] theorem fNotN_i : fNotN (.int i) .non = some (.bl true) := nr rfl
@[simp] theorem fNotN_s : fNotN (.str x) .non = some (.bl true) := nr rfl
@[simp] theorem fNotN_t {xs : List MV} : fNotN (.tup xs) .non = some (.bl true) := nr rfl
@[simp] theorem fNotN_b : fNotN (.bl b) .non = some (.bl true) := nr rfl
end
theorem tl_app (a b : Str) : (a ++ b).cps.toList = a.cps.toList ++ b.cps.toList := TL.tl_append a b
theorem len_app (a b : Str) : (a ++ b).length = a.length + b.length := by
  rw [TL.len_tl, TL.len_tl, TL.len_tl, TL.tl_append, List.length_append]
theorem len_cut {z : Str} {lo hi : Option Int} : (cutS z lo hi).length ≤ z.length := by
  rw [TL.len_tl, TL.len_tl]
  show (List.take _ (List.drop _ z.cps.toList)).length ≤ z.cps.toList.length
  rw [List.length_take, List.length_drop]
  omega
@[simp] theorem fIx_s {z : Str} {i : Int} : fIx (.str z) (.int i) = if szOk z.length then (atI z.cps.toList i).map fun c => MV.str ⟨#[c]⟩ else none := nr rfl
@[simp] theorem fSl_s {z : Str} {lo hi : Option Int} : fSl (.str z) lo hi = if szOk z.length then some (.str (cutS z lo hi)) else none := nr rfl
@[simp] theorem bLen_s {z : Str} : bLen [.str z] = if szOk z.length then some (.int z.length) else none := nr rfl
theorem at_some {α : Type} {xs : List α} {i : Int} (h : 0 ≤ i) (h2 : i < xs.length) : ∃ x ∈ xs, atI xs i = some x := by
  rw [atI_ge h]
  have : i.toNat < xs.length := by omega
  exact ⟨xs[i.toNat], List.getElem_mem this, List.getElem?_eq_getElem this⟩
theorem fMul_l {a : List MV} {k : Int} (h : 0 ≤ k) (h2 : k < 2 ^ 63) (h3 : szOk (a.length * k.toNat) = true) : fMul (.lst a) (.int k) = some (.lst (List.replicate k.toNat a).flatten) := by
  show (if (decide (-(2 ^ 63) ≤ k) && decide (k < 2 ^ 63) && szOk (a.length * k.toNat)) = true then some (MV.lst (List.replicate k.toNat a).flatten) else none) = _
  rw [if_pos]
  simp only [h2, h3, decide_true, Bool.and_true, decide_eq_true_eq]
  omega
theorem rep_one {α : Type} (x : α) (k : Nat) : (List.replicate k [x]).flatten = List.replicate k x := by
  induction k with
  | zero => rfl
  | succ k ih => rw [List.replicate_succ, List.flatten_cons, ih]; rfl
theorem fMul_1 {x : MV} {k : Nat} (h : k < 1000000) : fMul (.lst [x]) (.int (k : Nat)) = some (.lst (List.replicate k x)) := by
  rw [fMul_l (by omega) (by omega) (szOk_small (by simp; omega))]
  show some (MV.lst (List.replicate k [x]).flatten) = _
  rw [rep_one]
@[simp] theorem fMul_10 {x : MV} : fMul (.lst [x]) (.int 0) = some (.lst []) := fMul_1 (k := 0) (by decide)
@[simp] theorem fMul_11 {x : MV} : fMul (.lst [x]) (.int 1) = some (.lst [x]) := fMul_1 (k := 1) (by decide)
end Tm
set_option Elab.async false
set_option linter.all false
set_option maxRecDepth 100000
set_option maxHeartbeats 2000000
namespace Tm
open PySem L2
theorem lc_filt {g : Tgt} {t : MT} {e : ME} {vs : List Nat} {W : Env} (p : MV → Bool) (y : MV → MV) : ∀ (xs acc : List MV) (ρ : Env), (∀ x ∈ xs, ∃ ρ1, setT g x W = some ρ1 ∧ t ρ1 = .ok (p x, ρ1) ∧ (p x = true → e ρ1 = .ok (y x, ρ1)) ∧ wipeM ρ1 vs = W ∧ ρ1.length = W.length) → wipeM ρ vs = W → ρ.length = W.length → acc.length + xs.length ≤ sizeLine →
    ∃ ρ', mLcLoop g t e vs xs acc ρ = .ok (acc ++ (xs.filter p).map y, ρ') ∧ wipeM ρ' vs = W ∧ ρ'.length = W.length
  | [], acc, ρ, _, hw, hl, _ => ⟨ρ, by simp [mLcLoop], hw, hl⟩
  | x :: xs, acc, ρ, h, hw, hl, hz => by
    obtain ⟨ρ1, e1, et, e2, e3, e4⟩ := h x (List.mem_cons_self ..)
    rw [List.length_cons] at hz
    cases hp : p x with
    | true =>
      obtain ⟨ρ', r1, r2, r3⟩ := lc_filt (g := g) (t := t) (e := e) (vs := vs) p y xs (acc ++ [y x]) ρ1 (fun z hz => h z (List.mem_cons_of_mem _ hz)) e3 e4 (by rw [List.length_append, List.length_singleton]; omega)
      refine ⟨ρ', ?_, r2, r3⟩
      unfold mLcLoop
      rw [hw, e1]
      simp only [et, hp, b0_ok, if_true, e2 hp]
      rw [if_pos ⟨by omega, by rw [e4, hl]⟩, r1, List.filter_cons_of_pos hp]
      simp
    | false =>
      obtain ⟨ρ', r1, r2, r3⟩ := lc_filt (g := g) (t := t) (e := e) (vs := vs) p y xs acc ρ1 (fun z hz => h z (List.mem_cons_of_mem _ hz)) e3 e4 (by omega)
      refine ⟨ρ', ?_, r2, r3⟩
      unfold mLcLoop
      rw [hw, e1]
      simp only [et, hp, b0_ok, Bool.false_eq_true, if_false]
      rw [if_pos (by rw [e4, hl]), r1, List.filter_cons_of_neg (by simp [hp])]
theorem mLcO_filt {it : MI} {g : Tgt} {t : MT} {e : ME} {vs : List Nat} {ρ ρ1 : Env} {xs : List MV} (p : MV → Bool) (y : MV → MV) (hi : it ρ = .ok (xs, ρ1)) (hp : perAt ρ1 vs = true) (hx : ∀ x ∈ xs, ∃ ρ2, setT g x (wipeM ρ1 vs) = some ρ2 ∧ t ρ2 = .ok (p x, ρ2) ∧ (p x = true → e ρ2 = .ok (y x, ρ2)) ∧ wipeM ρ2 vs = wipeM ρ1 vs ∧ ρ2.length = ρ1.length) (hz : xs.length ≤ sizeLine) :
    mLcO it g t e vs ρ = .ok (.own ((xs.filter p).map y), ρ1) := by
  obtain ⟨ρ', r1, r2, r3⟩ := lc_filt (g := g) (t := t) (e := e) (vs := vs) (W := wipeM ρ1 vs) p y xs [] ρ1 (fun x h => by
    obtain ⟨ρ2, a, b, c, d, f⟩ := hx x h
    exact ⟨ρ2, a, b, c, d, by rw [f, wipeM_len]⟩) rfl (wipeM_len ..).symm (by simpa using hz)
  unfold mLcO
  rw [hi, bind_ok, if_pos hp, r1]
  simp only [b0_ok, List.nil_append]
  rw [back_wipe vs ρ1 ρ' (by rw [r3, wipeM_len]) (wipe_other (by rw [r3, wipeM_len]) r2)]
theorem set_none {ρ : Env} {v : Nat} (hv : ρ[v]? = some none) : ρ.set v none = ρ := by
  apply List.ext_getElem?
  intro j
  by_cases e : v = j
  · subst e; rw [List.getElem?_set_self (lt_get hv), hv]
  · rw [List.getElem?_set_ne e]
theorem mLcO_nmf {it : MI} {t : MT} {e : ME} {v : Nat} {ρ : Env} {xs : List MV} (p : MV → Bool) (y : MV → MV) (hi : it ρ = .ok (xs, ρ)) (hv : ρ[v]? = some none) (ht : ∀ x ∈ xs, t (ρ.set v (some x)) = .ok (p x, ρ.set v (some x))) (he : ∀ x ∈ xs, p x = true → e (ρ.set v (some x)) = .ok (y x, ρ.set v (some x))) (hz : xs.length ≤ sizeLine) :
    mLcO it (.nm v) t e [v] ρ = .ok (.own ((xs.filter p).map y), ρ) := by
  have lv := lt_get hv
  have w : wipeM ρ [v] = ρ := set_none hv
  refine mLcO_filt p y hi (by simp [perAt, hv]) (fun x hx => ?_) hz
  rw [w]
  refine ⟨ρ.set v (some x), by simp [setT, lv], ht x hx, he x hx, ?_, by simp⟩
  show (ρ.set v (some x)).set v none = ρ
  rw [List.set_set]
  exact w
theorem mLcO_nm {it : MI} {e : ME} {v : Nat} {ρ : Env} {xs : List MV} (y : MV → MV) (hi : it ρ = .ok (xs, ρ)) (hv : ρ[v]? = some none) (he : ∀ x ∈ xs, e (ρ.set v (some x)) = .ok (y x, ρ.set v (some x))) (hz : xs.length ≤ sizeLine) :
    mLcO it (.nm v) mYes e [v] ρ = .ok (.own (xs.map y), ρ) := by
  have := mLcO_nmf (t := mYes) (fun _ => true) y hi hv (fun _ _ => rfl) (fun x hx _ => he x hx) hz
  rwa [List.filter_eq_self.mpr (fun _ _ => rfl)] at this
section
variable {α β : Type} {a b : ME} {m : MA} {ρ : Env} {r : Option MV}
@[simp] theorem mSm_ap {f : Str → List MV → Option MV} : mSm f a m (r :: ρ) = (a (r :: ρ)).bind fun x ρ1 => match x with | .str z => (m ρ1).bind (smE f z) | _ => .stuck := nr rfl
theorem smE_ok {f : Str → List MV → Option MV} {z : Str} {ys : List MV} {w : MV} (h : f z ys = some w) : smE f z ys ρ = .ok (w, ρ) := by unfold smE; rw [h]
end
theorem strsOf_map : ∀ ss : List Str, strsOf (ss.map MV.str) = some ss
  | [] => rfl
  | s :: ss => by
    show (match strsOf (ss.map MV.str) with | some l => some (s :: l) | none => none) = _
    rw [strsOf_map ss]
@[simp] theorem fMul_s {a : Str} {k : Int} : fMul (.str a) (.int k) = if decide (-(2 ^ 63) ≤ k) && decide (k < 2 ^ 63) && szOk (a.length * k.toNat) then some (.str (repS a k)) else none := nr rfl
theorem fMul_tk {a : List MV} {k : Int} (h : 2 ≤ k ∧ k ≤ 1000) (h2 : a.length ≤ 1000) : fMul (.tup a) (.int k) = some (.tup (List.replicate k.toNat a).flatten) := by
  refine if_pos ?_
  simp only [Bool.and_eq_true, Bool.or_eq_true, decide_eq_true_eq]
  exact ⟨⟨by omega, by omega⟩, .inr ⟨h, h2⟩⟩
theorem fMul_tup {a : List MV} {k : Int} : fMul (.tup a) (.int k) = if (decide (-(2 ^ 63) ≤ k) && decide (k < 2 ^ 63) && (decide (k = 1) || a.isEmpty || (decide (2 ≤ k) && decide (k ≤ 1000) && decide (a.length ≤ 1000)))) = true then some (.tup (List.replicate k.toNat a).flatten) else none := rfl
@[simp] theorem fMul_t1 {a : List MV} : fMul (.tup a) (.int 1) = some (.tup a) := by
  rw [fMul_tup, if_pos (by simp)]
  simp
end Tm
set_option Elab.async false
set_option linter.all false
set_option maxRecDepth 100000
set_option maxHeartbeats 2000000
namespace Tm
open PySem L2
section
variable {ρ : Env} {r : Option MV}
@[simp] theorem cbE_ap {f : MF} {args : List BA} : cbE f args (r :: ρ) = match fill args (r :: ρ) with
  | some xs => (match f xs with | .ok (v, os) => .ok (v, back (r :: ρ) (idxB args) os) | .exc e os => .exc e (back (r :: ρ) (idxB args) os) | .stuck => .stuck)
  | none => .stuck := nr rfl
@[simp] theorem fill_nil {ρ : Env} : fill [] ρ = some [] := nr rfl
@[simp] theorem fill_v {ρ : Env} {x : MV} {s : List BA} : fill (.v x :: s) ρ = match fill s ρ with | some xs => some (x :: xs) | none => none := nr rfl
@[simp] theorem fill_b {ρ : Env} {i : Nat} {s : List BA} : fill (.b i :: s) ρ = match ρ[i]?, fill s ρ with | some (some x), some xs => if x.held then some (x :: xs) else none | _, _ => none := nr rfl
@[simp] theorem idxB_nil : idxB [] = [] := nr rfl
@[simp] theorem idxB_v {x : MV} {s : List BA} : idxB (.v x :: s) = idxB s := nr rfl
@[simp] theorem idxB_b {i : Nat} {s : List BA} : idxB (.b i :: s) = i :: idxB s := nr rfl
@[simp] theorem back_nil {ρ os : Env} : back ρ [] os = ρ := nr rfl
@[simp] theorem back_cons {ρ os : Env} {i : Nat} {is : List Nat} {o : Option MV} : back ρ (i :: is) (o :: os) = back (ρ.set i o) is os := nr rfl
@[simp] theorem held_own {xs : List MV} : (MV.own xs).held = true := nr rfl
@[simp] theorem held_obj {C : Str} {fs : List (Str × MV)} : (MV.obj C fs).held = true := nr rfl
end
theorem char_list_inj : ∀ {a b : List Char}, a.map Char.toNat = b.map Char.toNat → a = b
  | [], [], _ => rfl
  | [], _ :: _, h => by simp at h
  | _ :: _, [], h => by simp at h
  | c :: a, d :: b, h => by
    simp only [List.map_cons, List.cons.injEq] at h
    have e : c = d := by rw [← Char.ofNat_toNat c, ← Char.ofNat_toNat d, h.1]
    rw [e, char_list_inj h.2]
@[simp] theorem str_inj {a b : String} : (Str.ofString a = Str.ofString b) = (a = b) := by
  refine propext ⟨fun h => ?_, fun h => by rw [h]⟩
  rw [Str.ofString_eq_toList, Str.ofString_eq_toList] at h
  have h2 := congrArg (fun z : Str => z.cps.toList) h
  simp only at h2
  exact String.toList_inj.mp (char_list_inj h2)
end Tm
set_option Elab.async false
set_option linter.all false
set_option maxRecDepth 100000
set_option maxHeartbeats 2000000
namespace Tm
open PySem L2 PySem.Spec PyProof.Rows HotX
def HotS (X : Cx) : Prop := ∀ (pins : List (Addr × Obj)) (σ : L2.St) (H : Hp) (s : Shared), Inv X pins σ H s → ∃ x1, HotAt X.A x1 s.heap
structure TurnS (P : Program) (w : World) (K : PySem.W.Frag) (tg : Expr) (J : It) (it : Addr) (tn : Nat → Heap → Prop) : Prop where
  obj : ∀ i h, tn i h → ∃ o, h.get? it = some o ∧ ∀ v, o.data ≠ .cell v
  keep : ∀ i h h', tn i h → (∀ o, h.get? it = some o → h'.get? it = some o) → tn i h'
  item : ∀ (X : Cx), X.prog = P → X.w = w → X.K = K → ∀ (i : Nat) (pins : List (Addr × Obj)) (s : Shared) (σ : L2.St) (H : Hp) (E : Value → Shared → Prop), Inv X pins σ H s → FpOk X pins H it → tn i s.heap → J.go i H →
    wpAny (model P w) X.A (pyNext (.ref it)) (fun r s1 => ∃ u, r = some u ∧ wpAny (model P w) X.A (letOwnedTupleGo tg (.ref it) u) (fun _ s2 => ∃ x H', Inv X pins σ H' s2 ∧ RelV x u ∧ J.yld i H x H' ∧ tn (i + 1) s2.heap ∧ H' it = none) E s1) E s
  done : ∀ (X : Cx), X.prog = P → X.w = w → X.K = K → HotS X → ∀ (i : Nat) (pins : List (Addr × Obj)) (s : Shared) (σ : L2.St) (H : Hp) (E : Value → Shared → Prop), Inv X pins σ H s → FpOk X pins H it → tn i s.heap → J.stop i H →
    wpAny (model P w) X.A (pyNext (.ref it)) (fun r s1 => r = none ∧ Inv X pins σ H s1) E s
  self : ∀ (A : Around) (i : Nat) (s : Shared) (Q : Value → Shared → Prop) (E : Value → Shared → Prop), tn i s.heap → Q (.ref it) s → wpAny (model P w) A (pyIter (.ref it)) Q E s
structure PIS (X : Cx) (tg iter : Expr) (wi : TI) : Prop where
  run : ∀ (pins : List (Addr × Obj)) (s : Shared) (σ : L2.St) (H : Hp) (R : It → Hp → Prop), Inv X pins σ H s → wi σ H R →
    wpAny (model X.prog X.w) X.A (eval iter X.env) (fun v s1 => wpAny (model X.prog X.w) X.A (pyIter v) (fun u s2 => ∃ (it : Addr) (tn : Nat → Heap → Prop) (J : It) (H' : Hp), u = .ref it ∧ Inv X pins σ H' s2 ∧ TurnS X.prog X.w X.K tg J it tn ∧ tn 0 s2.heap ∧ FpOk X pins H' it ∧ R J H') X.xe s1) X.xe s
end Tm
set_option Elab.async false
set_option linter.all false
set_option maxRecDepth 100000
set_option maxHeartbeats 2000000
namespace Tm
open PySem L2 PySem.Spec PyProof.Rows
open Evl (Ex ex_rd ex_l ex_t)
structure FnE (P : Program) (w : World) (K : PySem.W.Frag) (mg : Str → Option Value) (base : Heap) (CX : CXT) (k : Nat) (f : Addr) (fd : FuncData) (ps : List Str) (sp : Addr × Obj → Sp) : Prop where
  len : ∀ p vs H Q E, sp p vs H Q E → vs.length = ps.length
  run : ∀ (A : Around) (outer : List PySem.Env) (s : Shared) (H : Hp) (args : Args) (us : List Value) (vs : List V) (Q : VK) (E : XK) (p : Addr × Obj), L2H.RoomH k A → L2H.Hot1 A p → L2H.PinOk outer H s p → Env0 P w K mg base A outer s H → BindsTo s fd args (ps.zip us) → Vals vs us → sp p vs H Q E →
    codeAny (model P w) A (.call (.ref f) args) (CR CX outer P w H s Q E) s
def spE (K : PySem.W.Frag) (mg : Str → Option Value) (ts : List Str) (f : MX → Res (MV × Env)) : Addr × Obj → Sp := fun p vs H Q _ => vs = [.ref p.1] ∧ ∃ (F Hk : Hp) (e : MX) (C : Addr) (d : Option Addr) (v : MV) (ρ' : Env), Ex Hk H ∧ Ex F H ∧ (∀ a o, F a = some o → Hk a = none) ∧
  mg e.cls = some (.ref C) ∧ e.cls ∈ ts ∧ L2N.Zn (.ref C) d p.2 ∧ (∃ vs, p.2.data = .fields vs) ∧ XIn F e d ∧ f e = .ok (v, ρ') ∧ flatM v = true ∧ ∀ Hk' H' u, Ex Hk Hk' → Ex Hk' H' → Ex F H' → (∀ a o, F a = some o → Hk' a = none) → RV K Hk' v u → Q u H'
structure FdE (P : Program) (w : World) (K : PySem.W.Frag) (mg : Str → Option Value) (base : Heap) (x : Str) (k : Nat) (q : Str) (ts : List Str) (f : MX → Res (MV × Env)) : Prop where
  ex : ∃ (a : Addr) (fd : FuncData), FnE P w K mg base (L2N.CX P w) k a fd [q] (spE K mg ts f) ∧ mg x = some (.ref a) ∧ PySem.W.keepIn K (.ref a) = true ∧ Binds K fd [q] []
structure KiB (K : PySem.W.Frag) (mg : Str → Option Value) (T : String) (x : Str) : Prop where
  ex : ∃ C, mg x = some (.ref C) ∧ PySem.W.kitOne K (.ref C) (.type T) = some true
end Tm
set_option Elab.async false
set_option linter.all false
set_option maxRecDepth 100000
set_option maxHeartbeats 2000000
namespace Tm
open PySem L2 PySem.Spec PyProof.Rows
open Evl (Ex ex_rd ex_l ex_t)
inductive HdE (X : Cx) (n : Str) : List ExceptHandler → List (Value × (Addr → Value → Option Addr → TS)) → Prop
  | nil : HdE X n [] []
  | cons {y : Str} {c : Value} {ts : Addr → Value → Option Addr → TS} {b₀ : Stmt} {suite : List Stmt} {np p : Pos} {hds : List ExceptHandler} {l : List (Value × (Addr → Value → Option Addr → TS))} (hc : Names X y c)
      (hsu : ∀ (a : Addr) (oe : Obj) (cls : Value) (d : Option Addr) (pn : List (Addr × Obj)), L2N.Zn cls d oe → (∃ vs, oe.data = .fields vs) → PSs (X.suite a ((a, oe) :: pn)) (b₀ :: suite) (ts a cls d)) (r : HdE X n hds l) :
      HdE X n (.ExceptHandler (some (.Name y np)) (some n) (b₀ :: suite) p :: hds) ((c, ts) :: l)
inductive HdM (X : Cx) (c : Ct) (i : Nat) (n : Str) : List ExceptHandler → List (List (Str × Bool) × (MX → MS)) → Prop
  | nil : HdM X c i n [] []
  | cons {y : Str} {b₀ : Stmt} {suite : List Stmt} {np p : Pos} {hds : List ExceptHandler} {tab : List (Str × Bool)} {mh : MX → MS} {l : List (List (Str × Bool) × (MX → MS))} (hg : Gl X y) (ht : ∀ p ∈ tab, ExT X.K X.mg y p.1 p.2) (hne : ∃ D, X.mg y = some (.ref D))
      (hsu : ∀ (a : Addr) (oe : Obj) (C : Addr) (d : Option Addr) (pn : List (Addr × Obj)) (e : MX), X.mg e.cls = some (.ref C) → (e.cls, true) ∈ tab → L2N.Zn (.ref C) d oe → (∃ vs, oe.data = .fields vs) → PSs (X.suite a ((a, oe) :: pn)) (b₀ :: suite) (rdS (cH c i a e d) (mh e)))
      (hdb : (y == ("__debug__" : Str)) = false) (r : HdM X c i n hds l) :
      HdM X c i n (.ExceptHandler (some (.Name y np)) (some n) (b₀ :: suite) p :: hds) ((tab, mh) :: l)
end Tm
set_option Elab.async false
set_option linter.all false
set_option maxRecDepth 100000
set_option maxHeartbeats 2000000
namespace Tm
open PySem L2 PySem.Spec PyProof.Rows
open Evl (Ex ex_rd ex_l ex_t)
section
variable {K : PySem.W.Frag} {F Hk H : Hp} {bp : List (Nat × Addr)} {σ : L2.St} {ρ : Env}
theorem RS.frame (S : RS K F Hk H bp σ ρ) {p : Addr} (o : HO) (h : H p = none) : RS K (upd F p o) Hk (upd H p o) bp σ ρ := by
  obtain ⟨ow, s⟩ := S.ow
  have np : ∀ i a, a ∈ ow i → a ≠ p := fun i a ha z => s.fresh h i (by rw [← z]; exact ha)
  have s2 : SL K F Hk (upd H p o) ow σ ρ := s.step (Ex.refl _) fun i a ha => ⟨upd_ne (np i a ha), (s.f i a ha).1⟩
  have hk : Hk p = none := S.ex.back h
  refine ⟨S.len, S.ex.mut hk, fun a u q => ?_, fun a u q => ?_, ⟨ow, s2.s, fun i a q => ⟨(s2.f i a q).1, by rw [upd_ne (np i a q)]; exact (s2.f i a q).2.1, (s2.f i a q).2.2⟩, s2.w, s2.d⟩, S.bor⟩
  · by_cases e : a = p
    · subst e; rw [upd_same] at q ⊢; exact q
    · rw [upd_ne e] at q ⊢; exact S.fr a u q
  · by_cases e : a = p
    · subst e; exact hk
    · rw [upd_ne e] at q; exact S.frk a u q
end
structure DPs (X : Cx) (c : Ct) (pos : Pos) (keys : List (Option Expr)) (values : List Expr) (ks : List Key) (m : MA) : Prop where
  ex : ∃ trs, PPs X pos keys values trs ∧ ∀ (σ : L2.St) (H : Hp) (Q : List (V × V) → Hp → Prop), rdA c m σ H (fun vs H' => Q ((ks.map kV).zip vs) H') → tPairs trs σ H Q
def dctIs : List (Str × MV) → List DictEntry → Bool
  | [], [] => true
  | p :: t, e :: r => e.key.isStr p.1 && flatIs p.2 e.val && dctIs t r
  | _, _ => false
structure DCst (K : PySem.W.Frag) (w : World) (mg : Str → Option Value) (x : Str) (tab : List (Str × MV)) : Prop where
  ex : ∃ a es n, mg x = some (.ref a) ∧ KDict K w a es n ∧ dctIs tab es.toList = true
end Tm
set_option Elab.async false
set_option linter.all false
set_option maxRecDepth 100000
set_option maxHeartbeats 2000000
namespace Tm
open PySem L2
open Evl (Ex ex_rd ex_l ex_t)
theorem OV.dow {K : PySem.W.Frag} {Hk H : Hp} {ks : List Key} {xs : List MV} {v : V} {A : List Addr} : OV K Hk H (.dow ks xs) v A ↔ ∃ p vs, v = .ref p ∧ A = [p] ∧ H p = some (.dK (ks.zip vs)) ∧ ks.length = xs.length ∧ RVs K Hk xs vs := by
  unfold OV OF; rfl
end Tm
set_option Elab.async false
set_option linter.all false
set_option maxRecDepth 100000
set_option maxHeartbeats 2000000
namespace Tm
open PySem L2 PySem.Spec PyProof.Rows
open Evl (Ex ex_rd ex_l ex_t)
inductive Tst
  | one (c : Value)
  | two (c1 c2 : Value)
inductive TstE (X : Cx) : Expr → Tst → Prop
  | one {y : Str} {c : Value} {np : Pos} (hc : Names X y c) : TstE X (.Name y np) (.one c)
  | two {y1 y2 : Str} {c1 c2 : Value} {p1 p2 tp : Pos} {k : Nat} (h1 : Names X y1 c1) (h2 : Names X y2 c2) : TstE X (.Tuple [.Name y1 p1, .Name y2 p2] k tp) (.two c1 c2)
theorem TstE.suite {X : Cx} {te : Expr} {t : Tst} (h : TstE X te t) (a : Addr) (pn : List (Addr × Obj)) : TstE (X.suite a pn) te t := by
  cases h with
  | one hc => exact .one hc
  | two h1 h2 => exact .two h1 h2
inductive HdT (X : Cx) (n : Str) : List ExceptHandler → List (Tst × (Addr → Value → Option Addr → TS)) → Prop
  | nil : HdT X n [] []
  | cons {te : Expr} {t : Tst} {ts : Addr → Value → Option Addr → TS} {b₀ : Stmt} {suite : List Stmt} {p : Pos} {hds : List ExceptHandler} {l : List (Tst × (Addr → Value → Option Addr → TS))} (hc : TstE X te t)
      (hsu : ∀ (a : Addr) (oe : Obj) (cls : Value) (d : Option Addr) (pn : List (Addr × Obj)), L2N.Zn cls d oe → (∃ vs, oe.data = .fields vs) → PSs (X.suite a ((a, oe) :: pn)) (b₀ :: suite) (ts a cls d)) (r : HdT X n hds l) :
      HdT X n (.ExceptHandler (some te) (some n) (b₀ :: suite) p :: hds) ((t, ts) :: l)
structure ExT2 (K : PySem.W.Frag) (mg : Str → Option Value) (y1 y2 : Str) (x : Str) (b : Bool) : Prop where
  ex : ∃ C D1 D2, mg x = some (.ref C) ∧ mg y1 = some (.ref D1) ∧ mg y2 = some (.ref D2) ∧ PySem.W.exmAny K (.ref C) [.ref D1, .ref D2] = some b
inductive HdMT (X : Cx) (c : Ct) (i : Nat) (n : Str) : List ExceptHandler → List (List (Str × Bool) × (MX → MS)) → Prop
  | nil : HdMT X c i n [] []
  | cons {y : Str} {b₀ : Stmt} {suite : List Stmt} {np p : Pos} {hds : List ExceptHandler} {tab : List (Str × Bool)} {mh : MX → MS} {l : List (List (Str × Bool) × (MX → MS))} (hg : Gl X y) (ht : ∀ p ∈ tab, ExT X.K X.mg y p.1 p.2) (hne : ∃ D, X.mg y = some (.ref D))
      (hsu : ∀ (a : Addr) (oe : Obj) (C : Addr) (d : Option Addr) (pn : List (Addr × Obj)) (e : MX), X.mg e.cls = some (.ref C) → (e.cls, true) ∈ tab → L2N.Zn (.ref C) d oe → (∃ vs, oe.data = .fields vs) → PSs (X.suite a ((a, oe) :: pn)) (b₀ :: suite) (rdS (cH c i a e d) (mh e)))
      (hdb : (y == ("__debug__" : Str)) = false) (r : HdMT X c i n hds l) :
      HdMT X c i n (.ExceptHandler (some (.Name y np)) (some n) (b₀ :: suite) p :: hds) ((tab, mh) :: l)
  | two {y1 y2 : Str} {b₀ : Stmt} {suite : List Stmt} {p1 p2 tp p : Pos} {k : Nat} {hds : List ExceptHandler} {tab : List (Str × Bool)} {mh : MX → MS} {l : List (List (Str × Bool) × (MX → MS))} (hg1 : Gl X y1) (hg2 : Gl X y2) (ht : ∀ p ∈ tab, ExT2 X.K X.mg y1 y2 p.1 p.2) (hne1 : ∃ D, X.mg y1 = some (.ref D)) (hne2 : ∃ D, X.mg y2 = some (.ref D))
      (hsu : ∀ (a : Addr) (oe : Obj) (C : Addr) (d : Option Addr) (pn : List (Addr × Obj)) (e : MX), X.mg e.cls = some (.ref C) → (e.cls, true) ∈ tab → L2N.Zn (.ref C) d oe → (∃ vs, oe.data = .fields vs) → PSs (X.suite a ((a, oe) :: pn)) (b₀ :: suite) (rdS (cH c i a e d) (mh e)))
      (hdb1 : (y1 == ("__debug__" : Str)) = false) (hdb2 : (y2 == ("__debug__" : Str)) = false) (r : HdMT X c i n hds l) :
      HdMT X c i n (.ExceptHandler (some (.Tuple [.Name y1 p1, .Name y2 p2] k tp)) (some n) (b₀ :: suite) p :: hds) ((tab, mh) :: l)
end Tm
set_option Elab.async false
set_option linter.all false
set_option maxRecDepth 100000
set_option maxHeartbeats 2000000
namespace Tm
open PySem L2 PySem.Spec PyProof.Rows
open Evl (Ex ex_rd ex_l ex_t)
structure FnF (P : Program) (w : World) (K : PySem.W.Frag) (mg : Str → Option Value) (base : Heap) (j n : Nat) (T : List (Str × MF)) : Prop where
  ex : ∀ x f, T.lookup x = some f → ∀ a, PySem.W.nsIn K mainGlobals x = some (some (.ref a)) → ∃ j' fd ps, j' ≤ j ∧ FnOk P w K mg base (L2N.CX P w) j' a fd ps (spF K mg n [] f) ∧ PySem.W.keepIn K (.ref a) = true ∧ Binds K fd ps []
end Tm
set_option Elab.async false
set_option linter.all false
set_option maxRecDepth 100000
set_option maxHeartbeats 2000000
namespace Tm
open PySem L2
open Evl (Ex ex_rd ex_l ex_t)
mutual
theorem nh_eq (w : World) : ∀ {x : MV} {k : NestedKey}, nkI x = some k → k.hash w = nh k
  | .int i, k, h => by unfold nkI at h; cases h; rfl
  | .tup xs, k, h => by
    unfold nkI at h
    obtain ⟨ks, h1, rfl⟩ := Option.map_eq_some_iff.mp h
    show reduceHash (Builtin.Tuple.tupleHashOf (NestedKey.hashes w ks)) = reduceHash (Builtin.Tuple.tupleHashOf (nhs ks))
    rw [nhs_eq w h1]
  | .non, k, h => by simp [nkI] at h
  | .bl _, k, h => by simp [nkI] at h
  | .str _, k, h => by simp [nkI] at h
  | .lst _, k, h => by simp [nkI] at h
  | .own _, k, h => by simp [nkI] at h
  | .raw _, k, h => by simp [nkI] at h
  | .scr _, k, h => by simp [nkI] at h
  | .fnc _, k, h => by simp [nkI] at h
  | .obj _ _, k, h => by simp [nkI] at h
  | .dct _ _, k, h => by simp [nkI] at h
  | .dow _ _, k, h => by simp [nkI] at h
  | .dot _ _, k, h => by simp [nkI] at h
theorem nhs_eq (w : World) : ∀ {xs : List MV} {ks : List NestedKey}, nkIs xs = some ks → NestedKey.hashes w ks = nhs ks
  | [], ks, h => by unfold nkIs at h; cases h; rfl
  | x :: xs, ks, h => by
    unfold nkIs at h
    split at h
    · rename_i k r h1 h2
      cases h
      show k.hash w :: NestedKey.hashes w r = nh k :: nhs r
      rw [nh_eq w h1, nhs_eq w h2]
    · cases h
end
section
variable {X : Cx} {pins : List (Addr × Obj)} {σ : St} {H Hk : Hp} {s : Shared}
mutual
theorem nkI_is (I : Inv X pins σ H s) (ex : Ex Hk H) : ∀ {x : MV} {k : NestedKey} {v : V} {u : Value}, nkI x = some k → RV X.K Hk x v → RelV v u → NestedIs s.heap k u
  | .int i, k, v, u, h, r, ru => by
    unfold nkI at h; cases h
    rw [RV.int] at r; subst r
    obtain ⟨t, rfl⟩ := (show ∃ t, u = Value.int i t from ru)
    exact .int i t
  | .tup xs, k, v, u, h, r, ru => by
    unfold nkI at h
    obtain ⟨ks, h1, rfl⟩ := Option.map_eq_some_iff.mp h
    rw [RV.tup] at r
    obtain ⟨a, vs, rfl, q, rs⟩ := r
    obtain rfl : u = Value.ref a := ru
    obtain ⟨its, vl, ⟨o, ho, hc, n, hd⟩, _⟩ := I.tuple (ex_t ex q)
    refine .tup ho hc hd ?_
    rw [List.toList_toArray]
    exact nkIs_are I ex h1 rs vl
  | .non, k, v, u, h, r, ru => by simp [nkI] at h
  | .bl _, k, v, u, h, r, ru => by simp [nkI] at h
  | .str _, k, v, u, h, r, ru => by simp [nkI] at h
  | .lst _, k, v, u, h, r, ru => by simp [nkI] at h
  | .own _, k, v, u, h, r, ru => by simp [nkI] at h
  | .raw _, k, v, u, h, r, ru => by simp [nkI] at h
  | .scr _, k, v, u, h, r, ru => by simp [nkI] at h
  | .fnc _, k, v, u, h, r, ru => by simp [nkI] at h
  | .obj _ _, k, v, u, h, r, ru => by simp [nkI] at h
  | .dct _ _, k, v, u, h, r, ru => by simp [nkI] at h
  | .dow _ _, k, v, u, h, r, ru => by simp [nkI] at h
  | .dot _ _, k, v, u, h, r, ru => by simp [nkI] at h
theorem nkIs_are (I : Inv X pins σ H s) (ex : Ex Hk H) : ∀ {xs : List MV} {ks : List NestedKey} {vs : List V} {us : List Value}, nkIs xs = some ks → RVs X.K Hk xs vs → Vals vs us → NestedAll s.heap ks us
  | [], ks, vs, us, h, r, ru => by
    unfold nkIs at h; cases h
    rw [RVs.nil] at r; subst r
    cases ru
    exact .nil
  | x :: xs, ks, vs, us, h, r, ru => by
    unfold nkIs at h
    split at h
    · rename_i k ks' h1 h2
      cases h
      rw [RVs.cons] at r
      obtain ⟨v, vr, rfl, r1, r2⟩ := r
      cases ru with
      | cons a b => exact .cons (nkI_is I ex h1 r1 a) (nkIs_are I ex h2 r2 b)
    · cases h
end
end
def NKey (X : Cx) (H : Hp) (k : NestedKey) (b : Addr) : Prop := ∀ {pins : List (Addr × Obj)} {σ : St} {s : Shared}, Inv X pins σ H s → NestedIs s.heap k (.ref b) ∧ k.depth ≤ 8 ∧ k.hash X.w = nh k
theorem NKey.of {X : Cx} {H Hk : Hp} {x : MV} {k : NestedKey} {b : Addr} (ex : Ex Hk H) (h : nkI x = some k) (hd : k.depth ≤ 8) (r : RV X.K Hk x (.ref b)) : NKey X H k b := fun I => ⟨nkI_is I ex h r rfl, hd, nh_eq X.w h⟩
def NKeys (X : Cx) (H : Hp) (l : List (NestedKey × Addr × V)) : Prop := ∀ p ∈ l, NKey X H p.1 p.2.1
theorem KN.keys {X : Cx} {H Hk : Hp} (ex : Ex Hk H) : ∀ {ks xs : List MV} {l : List (NestedKey × Addr × V)}, KN X.K Hk ks xs l → NKeys X H l
  | [], [], _, h => by cases h; intro p hp; cases hp
  | [], _ :: _, _, h => h.elim
  | _ :: _, [], _, h => h.elim
  | k :: ks, x :: xs, _, h => by
    obtain ⟨nk, a, v, r, rfl, h2, h3, h4, h5, h6⟩ := h
    intro p hp
    rcases List.mem_cons.mp hp with rfl | hp
    · exact NKey.of ex h2 h3 h4
    · exact KN.keys ex h6 p hp
section
variable {X : Cx} {pins : List (Addr × Obj)} {σ : St} {H : Hp} {s : Shared} {a : Addr} {l : List (NestedKey × Addr × V)}
def NP (l : List (NestedKey × Addr × V)) (xs : List (NestedKey × Addr × Value)) : Prop := Paired (fun (a : NestedKey × Addr × V) (b : NestedKey × Addr × Value) => a.1 = b.1 ∧ a.2.1 = b.2.1 ∧ RelV a.2.2 b.2.2) l xs
theorem NP.keys {l : List (NestedKey × Addr × V)} {xs : List (NestedKey × Addr × Value)} (r : NP l xs) : ∀ x ∈ xs, ∃ p ∈ l, p.1 = x.1 ∧ p.2.1 = x.2.1 := by
  unfold NP at r
  induction r with
  | nil => intro x hx; cases hx
  | cons h t ih =>
    rename_i a b l1 l2
    intro x hx
    rcases List.mem_cons.mp hx with rfl | hx
    · exact ⟨_, List.mem_cons_self .., h.1, h.2.1⟩
    · obtain ⟨p, hp, e⟩ := ih x hx
      exact ⟨p, List.mem_cons_of_mem _ hp, e⟩
def nAt (l : List (NestedKey × Addr × V)) (k : NestedKey) : Option V := (l.find? fun p => decide (p.1 = k)).map (·.2.2)
theorem NP.val {l : List (NestedKey × Addr × V)} {xs : List (NestedKey × Addr × Value)} (r : NP l xs) (k : NestedKey) : RelO (nAt l k) ((atKey xs k).map (·.2)) := by
  unfold NP at r
  induction r with
  | nil => exact True.intro
  | cons h t ih =>
    rename_i a b l1 l2
    by_cases e : a.1 = k
    · have e2 : b.1 = k := by rw [← h.1]; exact e
      simp only [nAt, atKey, List.find?_cons, e, e2, decide_true, Option.map_some]
      exact h.2.2
    · have e2 : ¬ b.1 = k := by rw [← h.1]; exact e
      simp only [nAt, atKey, List.find?_cons, e, e2, decide_false] at ih ⊢
      exact ih
def nPut (l : List (NestedKey × Addr × V)) (k : NestedKey) (b : Addr) (v : V) : List (NestedKey × Addr × V) :=
  if (nAt l k).isSome then l.map fun p => if p.1 = k then (p.1, p.2.1, v) else p else l ++ [(k, b, v)]
theorem NP.put {l : List (NestedKey × Addr × V)} {xs : List (NestedKey × Addr × Value)} (r : NP l xs) (k : NestedKey) (b : Addr) {v : V} {u : Value} (rv : RelV v u) : NP (nPut l k b v) (storedH xs k b u) := by
  have e := (r.val k).isSome_eq
  rw [Option.isSome_map] at e
  unfold nPut storedH
  rw [e]
  split
  · rename_i hh
    clear hh e
    unfold NP at r ⊢
    induction r with
    | nil => exact .nil
    | @cons p q ps qs h t ih =>
      refine .cons ?_ ih
      unfold putAt
      dsimp only
      by_cases z : p.1 = k
      · rw [if_pos z, if_pos (by rw [← h.1]; exact z)]
        exact ⟨h.1, h.2.1, rv⟩
      · rw [if_neg z, if_neg (by rw [← h.1]; exact z)]
        exact h
  · exact Paired.snoc r ⟨rfl, rfl, rv⟩
end
end Tm
set_option Elab.async false
set_option linter.all false
set_option maxRecDepth 100000
set_option maxHeartbeats 2000000
namespace Tm
open PySem L2
open Evl (Ex ex_rd ex_l ex_t)
theorem OV.dot {K : PySem.W.Frag} {Hk H : Hp} {ks xs : List MV} {v : V} {A : List Addr} : OV K Hk H (.dot ks xs) v A ↔ ∃ p l, v = .ref p ∧ A = [p] ∧ H p = some (.ext (nDict p l)) ∧ KN K Hk ks xs l := by
  unfold OV OF; rfl
def ndAt (ks xs : List MV) (k : NestedKey) : Option MV := ((ks.zip xs).find? fun p => decide (nkI p.1 = some k)).map (·.2)
def ndPut (ks xs : List MV) (y : MV) (k : NestedKey) (z : MV) : List MV × List MV :=
  if (ndAt ks xs k).isSome then (ks, (ks.zip xs).map fun p => if nkI p.1 = some k then z else p.2) else (ks ++ [y], xs ++ [z])
section
variable {K : PySem.W.Frag} {F Hk H : Hp} {bp : List (Nat × Addr)} {σ : L2.St} {ρ : Env}
theorem KN.len : ∀ {ks xs : List MV} {l : List (NestedKey × Addr × V)}, KN K Hk ks xs l → l.length = ks.length ∧ ks.length = xs.length
  | [], [], _, h => by cases h; exact ⟨rfl, rfl⟩
  | [], _ :: _, _, h => h.elim
  | _ :: _, [], _, h => h.elim
  | k :: ks, x :: xs, _, h => by
    obtain ⟨nk, a, v, r, rfl, h2, h3, h4, h5, h6⟩ := h
    have := KN.len h6
    simp [this.1, this.2]
theorem KN.at (k : NestedKey) : ∀ {ks xs : List MV} {l : List (NestedKey × Addr × V)}, KN K Hk ks xs l → (ndAt ks xs k = none → nAt l k = none) ∧ ∀ z, ndAt ks xs k = some z → ∃ v, nAt l k = some v ∧ RV K Hk z v
  | [], [], _, h => by cases h; exact ⟨(fun _ => rfl), (fun z e => nomatch e)⟩
  | [], _ :: _, _, h => h.elim
  | _ :: _, [], _, h => h.elim
  | j :: ks, x :: xs, _, h => by
    obtain ⟨nk, a, v, r, rfl, h2, h3, h4, h5, h6⟩ := h
    obtain ⟨i1, i2⟩ := KN.at k h6
    by_cases e : nk = k
    · subst e
      have e1 : ndAt (j :: ks) (x :: xs) nk = some x := by simp [ndAt, h2]
      have e2 : nAt ((nk, a, v) :: r) nk = some v := by simp [nAt]
      rw [e1, e2]
      exact ⟨(fun z => nomatch z), (fun z q => by cases q; exact ⟨v, rfl, h5⟩)⟩
    · have e1 : ndAt (j :: ks) (x :: xs) k = ndAt ks xs k := by
        have : ¬ some nk = some k := fun z => e (Option.some.inj z)
        simp [ndAt, h2, e]
      have e2 : nAt ((nk, a, v) :: r) k = nAt r k := by simp [nAt, e]
      rw [e1, e2]
      exact ⟨i1, i2⟩
theorem KN.snoc {y z : MV} {nk : NestedKey} {b : Addr} {v : V} (h2 : nkI y = some nk) (h3 : nk.depth ≤ 8) (h4 : RV K Hk y (.ref b)) (h5 : RV K Hk z v) : ∀ {ks xs : List MV} {l : List (NestedKey × Addr × V)}, KN K Hk ks xs l → KN K Hk (ks ++ [y]) (xs ++ [z]) (l ++ [(nk, b, v)])
  | [], [], _, h => by cases h; exact ⟨nk, b, v, [], rfl, h2, h3, h4, h5, rfl⟩
  | [], _ :: _, _, h => h.elim
  | _ :: _, [], _, h => h.elim
  | j :: ks, x :: xs, _, h => by
    obtain ⟨nk', a, v', r, rfl, g2, g3, g4, g5, g6⟩ := h
    exact ⟨nk', a, v', r ++ [(nk, b, v)], rfl, g2, g3, g4, g5, KN.snoc h2 h3 h4 h5 g6⟩
theorem KN.repl {z : MV} {k : NestedKey} {v : V} (h5 : RV K Hk z v) : ∀ {ks xs : List MV} {l : List (NestedKey × Addr × V)}, KN K Hk ks xs l → KN K Hk ks ((ks.zip xs).map fun p => if nkI p.1 = some k then z else p.2) (l.map fun p => if p.1 = k then (p.1, p.2.1, v) else p)
  | [], [], _, h => by cases h; rfl
  | [], _ :: _, _, h => h.elim
  | _ :: _, [], _, h => h.elim
  | j :: ks, x :: xs, _, h => by
    obtain ⟨nk, a, v', r, rfl, g2, g3, g4, g5, g6⟩ := h
    by_cases e : nk = k
    · subst e
      refine ⟨nk, a, v, _, ?_, g2, g3, g4, ?_, KN.repl h5 g6⟩
      · simp
      · simp [g2, h5]
    · have ne : ¬ some nk = some k := fun z => e (Option.some.inj z)
      refine ⟨nk, a, v', _, ?_, g2, g3, g4, ?_, KN.repl h5 g6⟩
      · simp [e]
      · simp only [g2, if_neg ne]
        exact g5
theorem KN.put {ks xs : List MV} {l : List (NestedKey × Addr × V)} (h : KN K Hk ks xs l) {y z : MV} {k : NestedKey} {b : Addr} {v : V} (h2 : nkI y = some k) (h3 : k.depth ≤ 8) (h4 : RV K Hk y (.ref b)) (h5 : RV K Hk z v) :
    KN K Hk (ndPut ks xs y k z).1 (ndPut ks xs y k z).2 (nPut l k b v) := by
  obtain ⟨i1, i2⟩ := KN.at k h
  unfold ndPut nPut
  cases e : ndAt ks xs k with
  | none =>
    rw [i1 e]
    exact KN.snoc h2 h3 h4 h5 h
  | some w =>
    obtain ⟨u, e1, _⟩ := i2 w e
    rw [e1]
    exact KN.repl h5 h
end
end Tm
set_option Elab.async false
set_option linter.all false
set_option maxRecDepth 100000
set_option maxHeartbeats 2000000
namespace Tm
open PySem L2
open Evl (Ex ex_rd ex_l ex_t)
abbrev LV (s : Stmt) (x : Str) : Prop := (defScope s).names.lookup x = some NameKind.local
abbrev GV (q : Str) (s : Stmt) (x : Str) : Prop := ∀ (L a : Addr) (cd : Value), (PyProof.Rows.envOfC q (defScope s) L a cd).kindOf x = some NameKind.globalImplicit
abbrev cxO (P : Program) (w : World) (K : PySem.W.Frag) (mg : Str → Option Value) (base : Heap) (ns : List Str) (q : Str) (s : Stmt) (f : Addr) (cdv : Value) (A : Around) (outer : List PySem.Env) (st : Shared) (H : Hp) (E : XK) : Cx := cxOf (L2N.CX P w) P w K mg base ns q (defScope s) f cdv A outer st H E
abbrev TkO (c : Cx) (E : XK) : Prop := L2N.Takes c (fun cls d _ H => E cls d H)
abbrev PnO (P : Program) (w : World) (c : Cx) : Prop := PassesOwn (model P w) c.A c.env c.xe
end Tm
set_option Elab.async false
set_option linter.all false
set_option maxRecDepth 100000
set_option maxHeartbeats 2000000
namespace Tm
open PySem L2
open Evl (Ex ex_rd ex_l ex_t)
def flatV : MV → Bool
  | .str _ => true
  | .int _ => true
  | .bl _ => true
  | _ => false
end Tm
set_option Elab.async false
set_option linter.all false
set_option maxRecDepth 100000
set_option maxHeartbeats 2000000
namespace Tm
open PySem L2
open Evl (Ex ex_rd ex_l ex_t)
section
open PyProof.Rows PySem.Spec
end
section
variable {X : Cx} {c : Ct} {pos pos' p p2 apos cpos : Pos} {e e2 : Expr} {es : List Expr} {a b : ME} {m : MA} {x f C : Str} {i : Nat} {fl : List Str}
inductive FJ (X : Cx) (c : Ct) : List Expr → List ME → Prop where
  | nil : FJ X c [] []
  | cons {e : Expr} {a : ME} {es : List Expr} {ms : List ME} (h : PE X e (rdE c a)) (r : FJ X c es ms) : FJ X c (e :: es) (a :: ms)
end
end Tm
set_option Elab.async false
set_option linter.all false
set_option maxRecDepth 100000
set_option maxHeartbeats 2000000
namespace Tm
open PySem L2 PySem.Spec PyProof.Rows
open Evl (Ex ex_rd ex_l ex_t)
def valIn (K : PySem.W.Frag) : MV → Value → Bool
  | .tup xs, .ref a => (match K.lookup a with | some ⟨.type "tuple", _, .seq its _, _⟩ => flatsIs xs its.toList && decide (its.size ≤ 1000) | _ => false)
  | .fnc x, .ref a => (match PySem.W.nsIn K mainGlobals x with | some (some (.ref b)) => decide (a = b) | _ => false)
  | x, v => flatIs x v
def dctIn (K : PySem.W.Frag) : List (Str × MV) → List DictEntry → Bool
  | [], [] => true
  | p :: t, e :: r => e.key.isStr p.1 && valIn K p.2 e.val && dctIn K t r
  | _, _ => false
structure DCsu (K : PySem.W.Frag) (w : World) (mg : Str → Option Value) (x : Str) (tab : List (Str × MV)) : Prop where
  ex : ∃ a es n, mg x = some (.ref a) ∧ KDict K w a es n ∧ dctIn K tab es.toList = true
end Tm
set_option Elab.async false
set_option linter.all false
set_option maxRecDepth 100000
set_option maxHeartbeats 2000000
namespace Tm
open PySem L2
section
variable {i : Nat} {r : Option MV} {ρ : Env} {a b : ME} {m : MA} {f C : Str} {neg : Bool} {ms : List ME} {acc : Str} {is : List Nat}
@[simp] theorem fz_dow {ks : List Key} {xs : List MV} : fz (.dow ks xs) = some (.dct ks xs) := nr rfl
@[simp] theorem fz_dct {ks : List Key} {xs : List MV} : fz (.dct ks xs) = some (.dct ks xs) := nr rfl
@[simp] theorem held_dow {ks : List Key} {xs : List MV} : (MV.dow ks xs).held = true := nr rfl
@[simp] theorem held_dct {ks : List Key} {xs : List MV} : (MV.dct ks xs).held = true := nr rfl
end
section
variable {ks js : List Key} {xs ys ps us zs : List MV} {ρ : Env}
@[simp] theorem per_dct : (MV.dct ks xs).per = true := nr rfl
end
end Tm
set_option Elab.async false
set_option linter.all false
set_option maxRecDepth 100000
set_option maxHeartbeats 2000000
namespace Tm
open PySem PySem.Spec L2
open Evl (Ex ex_rd ex_l ex_t)
theorem invXe {X : Cx} {pins : List (Addr × Obj)} {σ : St} {H : Hp} {s : Shared} (I : Inv X pins σ H s) (xe : Value → Shared → Prop) : Inv { X with xe := xe } pins σ H s :=
  have o := I.ok
  ⟨⟨o.mod, o.kind, o.glob, o.blt, o.above, o.inj, o.has, o.cab, o.hd, o.frames, o.stk, o.exf, o.bs, o.bsz, o.noex, o.exfs, o.funs, o.frf⟩, I.os, I.bare, I.base, I.loc, I.cell, I.free, I.freeC, I.pin, I.hok, I.len⟩
theorem noteEnv (e : Value) {cenv env : PySem.Env} (h : cenv.frame = env.frame) : noteFrame e cenv = noteFrame e env := by
  unfold noteFrame frameOf
  rw [h]
theorem nsUp {h h' : Heap} {L : Addr} {m : Str → Option Value} (hn : h.Ns L m) (up : h.UpToSlots h') : h'.Ns L m := by
  obtain ⟨oL, es, ep, e, hd, r⟩ := hn
  obtain ⟨sl, e2⟩ := up L oL e fun vs q => by rw [hd] at q; cases q
  exact ⟨_, es, ep, e2, hd, r⟩
theorem funFrames_at {B h h2 : Heap} : ∀ {l : List PySem.Env}, h.FunFrames B l → (∀ L ∈ frs l, h2.get? L = h.get? L) → h2.FunFrames B l
  | [], _, _ => trivial
  | env :: l, h, hn => by
    obtain ⟨hk, ⟨L, o, hf, hb, ho, hd⟩, hr⟩ := h
    exact ⟨hk, ⟨L, o, hf, hb, (hn L (List.mem_filterMap.mpr ⟨env, List.mem_cons_self, hf⟩)).trans ho, hd⟩, funFrames_at hr fun b hb => by
      obtain ⟨e, he, q⟩ := List.mem_filterMap.mp hb
      exact hn b (List.mem_filterMap.mpr ⟨e, List.mem_cons_of_mem _ he, q⟩)⟩
section
variable {M : Model} {A : Around} {E : Value → Shared → Prop} {s : Shared} {Z : Obj → Prop} {base : Heap} {env : PySem.Env} {outer : List PySem.Env} {L C e : Addr}
theorem look_other {Q : Unit → Shared → Prop} (hZ : PXN.Steady1 Z) (hfr : A.frames = some (env :: outer)) (hf : env.frame = some L) (hCL : C ≠ L) (hfl : HandSPX.HeldZ base (env :: outer) e Z C s.heap)
    (hQ : ∀ h', HandSPX.HeldZ base (env :: outer) e Z L h' → s.heap.UpToSlots h' → Q () { s with heap := h' }) : wpAny M A (noteFrame (.ref e) env) Q E s := by
  obtain ⟨hkb, hen, hl, oe, vs, T, oT, ts, he, hz, hd, h1, hnT, hTe, hT, hdT, h3⟩ := hfl
  unfold noteFrame
  simp only [hf]
  refine wpAny_bind (wpAny_field he hd h1 ?_)
  rw [if_pos (show (Value.ref T != Value.none) = true from by simp)]
  refine wpAny_bind (wpAny_field hT hdT h3 ?_)
  rw [if_neg (show ¬ ((rawInt C == rawInt L) = true) from by simp [rawInt]; exact fun h => hCL (Int.ofNat.inj h))]
  refine wpAny_bind (wpAny_setField hT hdT (Array.getElem?_eq_some_iff.mp h3).1 ?_)
  have ot : ∀ b, b ≠ T → (s.heap.update T (Obj.mapFields (·.setIfInBounds 3 Value.none))).get? b = s.heap.get? b := fun b hb => Heap.get?_update_other _ _ (Ne.symm hb)
  have nr : ∀ b o, s.heap.get? b = some o → (∀ vs, o.data ≠ .fields vs) → b ≠ T := fun b o hb hnf q => by
    subst q; rw [hT] at hb; cases hb; exact hnf ts hdT
  refine PXN.wpAny_entryZ hZ hfr (hl.of_keeps fun b o hb hnf => ⟨o, (ot b (nr b o hb hnf)).trans hb, rfl⟩) hf ((ot e (Ne.symm hTe)).trans he)
    (fun b o hbo => (ot b fun q => by subst q; rw [hnT] at hbo; cases hbo).trans (hkb b o hbo)) hen hd (Array.getElem?_eq_some_iff.mp h1).1 hz fun h' ⟨x1, x2, x3, x4⟩ => ?_
  exact hQ h' ⟨x1, hen, x2, x3⟩ fun b o hb hnf => x4 b o ((ot b (nr b o hb hnf)).trans hb) hnf
end
abbrev blkX (X : Cx) (s : Shared) (H : Hp) (scope : Scope) (ce : PySem.Env) (fp : List Addr) (xe : Value → Shared → Prop) : Cx := { X.blk s H scope ce fp with xe := xe }
section
variable {X : Cx} {W : WX} {pins : List (Addr × Obj)} {σ : St} {H3 : Hp} {s3 : Shared} {scope : Scope} {fp : List Addr} {ce : PySem.Env}
theorem blk_takes (hs : X.stack = X.env :: X.outer) (hf : X.env.frame = some X.env.locals) (tk : L2N.Takes X W) (I3 : Inv X pins σ H3 s3) (f3 : ∀ b ∈ fp, FpOk X pins H3 b) (hC : s3.heap.objs.size ≤ ce.locals) (hcf : ce.frame = X.env.frame) :
    L2N.Takes (blkX X s3 H3 scope ce fp (notedBy (model X.prog X.w) X.A ce (CompFails (model X.prog X.w) X.A X.xe ce))) (fun cls d _ H => W cls d σ H) := by
  rintro u s' ⟨a, B, sI, pi', σ', H', cls, d, rfl, I6, nb, up, sky, na, os, ag, w⟩
  have hfr : X.A.frames = some (X.env :: X.outer) := by rw [I3.ok.frames, hs]
  have I7 : Inv X pins σ H' sI := I3.call' (ch := fp) I6.os I6.base I6.hok I6.bare fun b hb => ⟨(f3 b hb).2.2.2.1, (f3 b hb).2.1, (f3 b hb).2.2.2.2.1, (f3 b hb).2.2.2.2.2⟩
  have nC : H' ce.locals = none := I6.free
  have fC : FpOk X pins H' ce.locals := I3.fpOk hC nC
  have nb : ∀ b o, sI.heap.get? b = some o → b ∉ frs X.stack → B.get? b = some o := nb
  have nst : ce.locals ∉ frs X.stack := fun z => by
    rcases List.mem_cons.mp (I3.stkSub _ z) with z | z
    · exact fC.2.1 z
    · exact fC.2.2.1 z
  obtain ⟨mC, hnC, _⟩ := I6.loc
  have hnC : sI.heap.Ns ce.locals mC := hnC
  have hnC' : s'.heap.Ns ce.locals mC := nsUp hnC up
  have sky : Sky B X.stack a (L2N.Zn cls d) ce.locals s'.heap := sky
  have hlB : ∃ h : Heap, h.FunFrames B X.stack := by
    rcases sky with q | q | q
    · exact ⟨_, q.2.2.1⟩
    · exact ⟨_, q.2.2.1⟩
    · exact ⟨_, q.2.2.1⟩
  have aB : B.get? a = none := by
    rcases sky with q | q | q
    · exact q.2.1
    · exact q.2.1
    · exact q.2.1
  obtain ⟨hl0, hlB⟩ := hlB
  have frB : ∀ b ∈ frs X.stack, B.get? b = none := fun b hb => (hlB.mem hb).1
  have C1 : ∃ B1 : Heap, (∀ b o, B1.get? b = some o → B.get? b = some o) ∧ B1.get? ce.locals = none ∧ ∀ b o, b ≠ ce.locals → B.get? b = some o → B1.get? b = some o :=
    ⟨PySem.W.hideAll B [ce.locals], fun b o e => PySem.W.of_hideAll _ e, PySem.W.hideAll_none _ (by simp), fun b o hb e => PySem.W.hideAll_get _ e (by simpa using hb)⟩
  obtain ⟨B1, b1, b1C, b1k⟩ := C1
  have b1n : ∀ b, B.get? b = none → B1.get? b = none := fun b e => by
    cases q : B1.get? b with
    | none => rfl
    | some o => rw [b1 b o q] at e; cases e
  have fin : ∀ h1, HandSPX.HeldZ B1 (X.env :: X.outer) a (L2N.Zn cls d) X.env.locals h1 → s'.heap.UpToSlots h1 → CompFails (model X.prog X.w) X.A X.xe ce (.ref a) { s' with heap := h1 } := fun h1 hh up1 => by
    have hn1 : h1.Ns ce.locals mC := nsUp hnC' up1
    refine ⟨mC, hn1, fun h2 m2 hn2 sb => ?_⟩
    have sb : Heap.SameBut ce.locals h1 h2 := sb
    obtain ⟨k1, k2, k3, k4⟩ := hh
    obtain ⟨oe, vs, T, oT, ts, ga, hz, hd, hv1, nT, hTa, gT, hdT, ht3⟩ := k4
    have rc : ∀ b o vs, h1.get? b = some o → o.data = .fields vs → b ≠ ce.locals := fun b o vs e e2 z => by
      obtain ⟨o', es, ep, e', d', _⟩ := hn1
      rw [← z, e] at e'; cases e'
      rw [e2] at d'; cases d'
    have aC := rc a oe vs ga hd
    have tC := rc T oT ts gT hdT
    have ga2 : h2.get? a = some oe := (sb.2 a aC).trans ga
    have st2 : B1.StaysIn h2 := fun b o e => (sb.2 b fun z => by rw [z, b1C] at e; cases e).trans (k1 b o e)
    have ff2 : h2.FunFrames B1 (X.env :: X.outer) := funFrames_at k3 fun b hb => sb.2 b fun z => nst (by rw [hs, ← z]; exact hb)
    have k4' : HandSPX.TracedZ h2 B1 a (L2N.Zn cls d) (rawInt X.env.locals) := ⟨oe, vs, T, oT, ts, ga2, hz, hd, hv1, nT, hTa, (sb.2 T tC).trans gT, hdT, ht3⟩
    unfold passOn
    refine wpAny_bind (wpAny_field ga2 hd hv1 ?_)
    rw [if_neg (show ¬ ((Value.ref T == Value.none) = true) from by simp)]
    rw [hcf, hf]
    refine wpAny_bind (HandSPX.setFlight_onZ (L := X.env.locals) (s := { s' with heap := h2 }) ⟨st2, k2, ff2, k4'⟩ fun h3 hh3 up3 => wpAny_throw (tk _ _ ?_))
    -- the state behind it
    obtain ⟨j1, j2, j3, j4⟩ := hh3
    have up3 : h2.UpToSlots h3 := up3
    have kb : ∀ b o, b ≠ ce.locals → B.get? b = some o → h3.get? b = some o := fun b o hb e => j1 b o (b1k b o hb e)
    obtain ⟨G, g1, g2⟩ := restrict h3 fun b => (B.get? b).isSome || decide (b ∈ frs X.stack)
    obtain ⟨B2, c1, c2⟩ := restrict h3 fun b => (B.get? b).isSome
    have gB : ∀ b o, b ≠ ce.locals → B.get? b = some o → G.get? b = some o := fun b o hb e => by
      rw [g1 b (by simp [e])]
      exact kb b o hb e
    have gF : ∀ b, b ∈ frs X.stack → G.get? b = h3.get? b := fun b hb => g1 b (by simp [hb])
    have og : ∀ b o, G.get? b = some o → h3.get? b = some o ∧ ((B.get? b).isSome = true ∨ b ∈ frs X.stack) := fun b o e => by
      cases q : ((B.get? b).isSome || decide (b ∈ frs X.stack)) with
      | false => rw [g2 b q] at e; cases e
      | true =>
        rw [g1 b q] at e
        exact ⟨e, by simpa [Bool.or_eq_true] using q⟩
    have c2n : ∀ b, B.get? b = none → B2.get? b = none := fun b e => c2 b (by simp [e])
    have nf : ∀ b ∈ frs X.stack, ∀ o, sI.heap.get? b = some o → ∃ sl, G.get? b = some { o with slots := sl } := fun b hb o e => by
      obtain ⟨_, o', e', hd'⟩ := I7.stack.mem hb
      rw [e] at e'; cases e'
      obtain ⟨s1, q1⟩ := up b o e hd'
      obtain ⟨s2, q2⟩ := up1 b _ q1 hd'
      obtain ⟨s4, q4⟩ := up3 b _ ((sb.2 b fun z => nst (z ▸ hb)).trans q2) hd'
      exact ⟨s4, by rw [gF b hb]; exact q4⟩
    obtain ⟨o3, _, _, e3, _⟩ := nsUp hn2 up3
    have J := I7.call (ch := [ce.locals]) (h' := G) (g' := sI.gens) (t' := sI.toks) (d' := sI.drawn) (H' := H')
      ⟨fun b o e _ hb hc => gB b o (by simpa using hc) (nb b o e hb), fun b o e _ hb _ => nf b hb o e, fun _ _ _ n _ => n, fun b o e hc => by
        by_cases hb : b ∈ frs X.stack
        · obtain ⟨sl, q⟩ := nf b hb o e
          exact ⟨_, q⟩
        · exact ⟨o, gB b o (by simpa using hc) (nb b o e hb)⟩, fun _ _ e => e, fun _ _ _ e => e, fun b ps e => ⟨#[], by rw [e]; simp⟩⟩
      (fun b o q => (I7.hok b o q).stay (fun c u hc r => by
        have nn : H' c ≠ none := fun z => by
          rcases hc with hc | hc
          · rw [hc, q] at z; cases z
          · rw [hc] at z; cases z
        refine gB c u (fun z => nn (z ▸ nC)) (nb c u r fun hm => nn (I7.stkFree c hm))) (fun _ r => r) fun _ _ r => r)
      I7.bare (fun b hb => by
        have e : b = ce.locals := by simpa using hb
        subst e
        exact ⟨fC.2.2.2.1, fC.2.1, fC.2.2.2.2.1, fC.2.2.2.2.2⟩)
    obtain ⟨oe3, vs3, T3, oT3, ts3, ga3, hz3, hd3, hv3, nT3, hTa3, gT3, hdT3, ht33⟩ := j4
    have tC3 : T3 ≠ ce.locals := fun z => by
      obtain ⟨o', es, ep, e', d', _⟩ := nsUp hn2 up3
      rw [← z, gT3] at e'; cases e'
      rw [hdT3] at d'; cases d'
    have nTB : B.get? T3 = none := by
      cases q : B.get? T3 with
      | none => rfl
      | some o => rw [b1k T3 o tC3 q] at nT3; cases nT3
    refine ⟨a, B2, { sI with heap := G }, pins, σ, H', cls, d, rfl, J, fun b o e hb => ?_, Heap.UpToSlots.of_keeps fun b o e => (og b o e).1, .inr (.inr ?_), na, os, ag, w⟩
    · obtain ⟨e', h⟩ := og b o e
      rcases h with h | h
      · rw [c1 b h]; exact e'
      · exact absurd h hb
    · rw [hs]
      refine ⟨fun b o e => ?_, c2n a aB, funFrames_none j3 fun b hb => c2n b (frB b (by rw [hs]; exact hb)), oe3, vs3, T3, oT3, ts3, ga3, hz3, hd3, hv3, c2n T3 nTB, hTa3, gT3, hdT3, ht33⟩
      cases q : (B.get? b).isSome with
      | false => rw [c2 b q] at e; cases e
      | true => rw [c1 b q] at e; exact e
  show wpAny (model X.prog X.w) X.A (noteFrame (.ref a) ce) _ _ s'
  rw [noteEnv _ hcf]
  rw [hs] at sky
  have ff : ∀ h : Heap, h.FunFrames B (X.env :: X.outer) → h.FunFrames B1 (X.env :: X.outer) := fun h q => funFrames_none q fun b hb => b1n b (frB b (by rw [hs]; exact hb))
  rcases sky with ⟨hB, hn, hl, oe, vs, he, hz, hd, h1⟩ | ⟨hB, hn, hl, ht⟩ | ⟨hB, hn, hl, ht⟩
  · exact PXN.look_newZ L2N.Zn.steady hfr (ff _ hl) hf he (fun b o e => hB b o (b1 b o e)) (b1n a hn) hd h1 hz fin
  · obtain ⟨oe, vs, T, oT, ts, he, hz, hd, h1, nT, r⟩ := ht
    exact PXN.looks_onZ L2N.Zn.steady hfr hf ⟨fun b o e => hB b o (b1 b o e), b1n a hn, ff _ hl, oe, vs, T, oT, ts, he, hz, hd, h1, b1n T nT, r⟩ fin
  · obtain ⟨oe, vs, T, oT, ts, he, hz, hd, h1, nT, r⟩ := ht
    exact look_other L2N.Zn.steady hfr hf fC.2.1 ⟨fun b o e => hB b o (b1 b o e), b1n a hn, ff _ hl, oe, vs, T, oT, ts, he, hz, hd, h1, b1n T nT, r⟩ fin
end
def tLcX (wi : TI) (g : TG) (te : WX → TE) (vs : List Nat) (W : WX) : TE := fun σ H Q => wi σ H fun J H1 => ∀ D, H1 D = none → ∃ V : Nat → Nat → Hp → Prop, (∃ m, V 0 m (upd H1 D (.lst []))) ∧ ∀ i m H, V i m H →
  (J.stop i H ∧ Q (.ref D) H) ∨ (J.go i H ∧ ∃ Nx : Hp → Prop, (∀ H', Nx H' → ∃ m', m' < m ∧ V (i + 1) m' H') ∧ ∀ x H', J.yld i H x H' → g x (wipe σ vs) H' fun σ2 H2 => wipe σ2 vs = wipe σ vs ∧
    te (fun cls d _ H => W cls d σ H) σ2 H2 fun y H4 => ∃ acc, H4 D = some (.lst acc) ∧ acc.length < sizeLine ∧ Nx (upd H4 D (.lst (acc ++ [y]))))
section
variable {X : Cx} {W : WX} {elt tg iter : Expr} {scope : Scope} {own : List (Str × Nat)} {pos : Pos} {wi : TI} {g : TG} {te : WX → TE}
theorem lcX_core {pins : List (Addr × Obj)} {s : Shared} {σ : St} {H : Hp} {Q : VK} {pos' : Pos} {use : Option (Value → Sem Unit)} {Qf : Value → Shared → Prop} (hs : X.stack = X.env :: X.outer) (hf : X.env.frame = some X.env.locals) (tk : L2N.Takes X W) (hc : X.calm = true) (hN : X.N.Nodup)
    (I : Inv X pins σ H s) (hi : PI X tg iter wi) (ok : BlkOk X.N X.env.scope scope own)
    (hg : ∀ (xe : Value → Shared → Prop) (s : Shared) (H : Hp) (C : Addr) (cl : List (Str × Addr)) (fp : List Addr), PG (blkX X s H scope (compEnvC scope cl C X.env) fp xe) tg g)
    (he : ∀ (W : WX) (xe : Value → Shared → Prop) (s : Shared) (H : Hp) (C : Addr) (cl : List (Str × Addr)) (fp : List Addr), L2N.Takes (blkX X s H scope (compEnvC scope cl C X.env) fp xe) W → PE (blkX X s H scope (compEnvC scope cl C X.env) fp xe) elt (te W))
    (hfo : ∀ x, foldedSetIterable iter X.env x = pure x) (h : tLcX wi g te (own.map (·.2)) W σ H Q)
    (hRR : ∀ D (ce : PySem.Env) s' m H', Inv X pins σ H' s' → Q (.ref D) H' → s'.heap.Ns ce.locals m → FpOk X pins H' ce.locals → compEnds (model X.prog X.w) X.A X.xe use Qf (.ref D) ce (.ok .next) s') :
    wpAny (model X.prog X.w) X.A (comprehension (.ListComp elt [⟨tg, iter, [], 0⟩] scope pos) scope X.env pos' (newList []) false (eval iter X.env) use) Qf X.xe s := by
  have fr : ∀ y ∈ scope.names, y.2 = .free → ∃ c, X.env.cells.lookup y.1 = some c := fun y hy e => I.ok.has _ (ok.free y hy e)
  refine comprehension_at (use := use) rfl hfo (closure_ok fr) ok.kind (fun y hy e => by rw [ok.uniq y hy, e]) (thn (hi.run pins s σ H _ I h) fun xv s1 hx => thn hx fun itv s2 ⟨it, fp, tn, J, H2, e, I2, T, st2, f2, q⟩ => ?_)
  subst e
  refine wpAny_newObj_type (newEnv_comp ?_) (by show 0 ≤ sizeLine; decide)
  obtain ⟨D, hD⟩ : ∃ D, s2.heap.objs.size = D := ⟨_, rfl⟩
  obtain ⟨V, ⟨m0, w0⟩, turn⟩ := q D (I2.hok.fresh (Nat.le_of_eq hD))
  rw [hD]
  obtain ⟨s3, hs3⟩ : ∃ s3 : Shared, ({ s2 with heap := s2.heap.push { cls := .type "list", data := .seq ([] : List Value).toArray } } : Shared) = s3 := ⟨_, rfl⟩
  have push3 : ∀ b o, s2.heap.get? b = some o → s3.heap.get? b = some o := fun b o z => by rw [← hs3]; exact Heap.get?_push_of_some _ z
  have I3 : Inv X pins σ (upd H2 D (.lst [])) s3 := by
    rw [← hs3]
    exact I2.laid (t' := s2.toks) (fun b o z => Heap.get?_push_of_some _ z) (Nat.le_of_eq hD) ⟨Nat.zero_le _, [], 0, .nil, by rw [← hD]; exact Heap.get?_push_size _ rfl⟩
  have st3 : tn 0 s3.heap := T.keep _ _ _ st2 fun b _ o z => push3 _ o z
  have lt2 : ∀ b ∈ fp, b < s2.heap.objs.size := fun b hb => by
    obtain ⟨o, z, _⟩ := T.obj _ _ st2 b hb
    exact Heap.lt_size z
  obtain ⟨H3, hH3⟩ : ∃ H3, upd H2 D (.lst []) = H3 := ⟨_, rfl⟩
  have f3 : ∀ b ∈ fp, FpOk X pins H3 b := fun b hb => ⟨by rw [← hH3, upd_ne (Nat.ne_of_lt (hD ▸ lt2 b hb))]; exact (f2 b hb).1, (f2 b hb).2⟩
  have lt3 : ∀ b ∈ fp, b < s3.heap.objs.size := fun b hb => by
    obtain ⟨o, z, _⟩ := T.obj _ _ st3 b hb
    exact Heap.lt_size z
  rw [hs3]
  rw [hH3] at I3 w0
  have I4 := block_start (fp := fp) I3 ok hN fun b hb => ⟨f3 b hb, lt3 b hb⟩
  obtain ⟨ce, hce⟩ : ∃ ce, compEnvC scope (cellsFrom (s3.heap.objs.size + 1) scope.names (cloFrom X.env.cells scope.names [])) s3.heap.objs.size X.env = ce := ⟨_, rfl⟩
  have hL : ce.locals = s3.heap.objs.size := by rw [← hce]; rfl
  have hcf : ce.frame = X.env.frame := by rw [← hce]; rfl
  show codeAny _ _ (.compStart (.ListComp elt [⟨tg, iter, [], 0⟩] scope pos) 0 (.ref it) (.ref D) (compEnvC scope (cellsFrom (s3.heap.objs.size + 1) scope.names (cloFrom X.env.cells scope.names [])) s3.heap.objs.size X.env))
    (compEnds (model X.prog X.w) X.A X.xe use _ (.ref D) (compEnvC scope (cellsFrom (s3.heap.objs.size + 1) scope.names (cloFrom X.env.cells scope.names [])) s3.heap.objs.size X.env)) { s3 with heap := pushCells (s3.heap.push { cls := .type "dict", data := .dict #[] }) scope.names }
  have pg := hg (notedBy (model X.prog X.w) X.A ce (CompFails (model X.prog X.w) X.A X.xe ce)) s3 H3 s3.heap.objs.size (cellsFrom (s3.heap.objs.size + 1) scope.names (cloFrom X.env.cells scope.names [])) fp
  have pe := he (fun cls d _ H => W cls d σ H) (notedBy (model X.prog X.w) X.A ce (CompFails (model X.prog X.w) X.A X.xe ce)) s3 H3 s3.heap.objs.size (cellsFrom (s3.heap.objs.size + 1) scope.names (cloFrom X.env.cells scope.names [])) fp
  rw [hce] at I4 pg pe ⊢
  have pe := pe (blk_takes hs hf tk I3 f3 (Nat.le_of_eq hL.symm) hcf)
  obtain ⟨s4, hs4⟩ : ∃ s4 : Shared, ({ s3 with heap := pushCells (s3.heap.push { cls := .type "dict", data := .dict #[] }) scope.names } : Shared) = s4 := ⟨_, rfl⟩
  rw [hs4] at I4 ⊢
  have st4 : tn 0 s4.heap := T.keep _ _ _ st3 fun b _ o z => by rw [← hs4]; exact pushCells_keeps _ _ _ _ (Heap.get?_push_of_some _ z)
  obtain ⟨vs, hvs⟩ : ∃ vs, own.map (·.2) = vs := ⟨_, rfl⟩
  rw [hvs] at turn I4
  obtain ⟨Y, hY⟩ : ∃ Y, blkX X s3 H3 scope ce fp (notedBy (model X.prog X.w) X.A ce (CompFails (model X.prog X.w) X.A X.xe ce)) = Y := ⟨_, rfl⟩
  have I4 : Inv Y [] (wipe σ vs) H3 s4 := by rw [← hY]; exact invXe I4 _
  have stat : ∀ {σ' : St} {H' : Hp} {s' : Shared}, Inv Y [] σ' H' s' → (∀ b ∈ fp, H' b = none) → ∀ b ∈ fp, FpOk Y [] H' b := fun {σ' H' s'} J' n b hb => by
    subst hY
    exact ⟨n b hb, (J'.ok.exf b hb).1, J'.ok.exfs b hb, .inl hb, fun x c z => (J'.ok.exf b hb).2 x c z, fun p hp => by cases hp⟩
  rw [hY] at pg pe
  have yp : Y.prog = X.prog := by subst hY; rfl
  have yw : Y.w = X.w := by subst hY; rfl
  have yK : Y.K = X.K := by subst hY; rfl
  have yA : Y.A = X.A := by subst hY; rfl
  have yc : Y.calm = true := by subst hY; exact hc
  have ye : Y.env = ce := by subst hY; rfl
  have yx : Y.xe = notedBy (model X.prog X.w) X.A ce (CompFails (model X.prog X.w) X.A X.xe ce) := by subst hY; rfl
  have yb : ∀ {σ' : St} {H' : Hp} {s' : Shared} {pi : List (Addr × Obj)}, Inv Y pi σ' H' s' → Inv X pins σ H' s' ∧ H' ce.locals = none ∧ ∃ m, s'.heap.Ns ce.locals m := fun {σ' H' s' pi} J' => by
    subst hY
    obtain ⟨m, hn, _⟩ := J'.loc
    exact ⟨I3.call' (ch := fp) J'.os J'.base J'.hok J'.bare fun b hb => ⟨(f3 b hb).2.2.2.1, (f3 b hb).2.1, (f3 b hb).2.2.2.2.1, (f3 b hb).2.2.2.2.2⟩, J'.free, m, hn⟩
  have loop : codeAny (model X.prog X.w) X.A (.compLoop (.ListComp elt [⟨tg, iter, [], 0⟩] scope pos) 0 (.ref it) (.ref D) ce) (fun r s' => match r with
      | .ok f => compEnds (model X.prog X.w) X.A X.xe use Qf (.ref D) ce (.ok f) s'
      | .error x => CompFails (model X.prog X.w) X.A X.xe ce x s') s4 := by
    refine compLoop_any (fun n s' => ∃ i H', Inv Y [] (wipe σ vs) H' s' ∧ tn i s'.heap ∧ (∀ b ∈ fp, H' b = none) ∧ V i n H') ?_ m0 ⟨0, H3, I4, st4, fun b hb => (f3 b hb).1, w0⟩
    rintro n s5 ⟨i, H5, I5, st5, n5, w5⟩
    rcases turn i n H5 w5 with ⟨stop, qq⟩ | ⟨go, Nx, hNx, step⟩
    · have td := T.done Y yp yw yK yc i [] s5 _ H5 (fun _ _ => False) I5 (stat I5 n5) st5 stop
      rw [yA] at td
      refine thnF td fun r s6 ⟨hr, I6⟩ => ?_
      subst hr
      obtain ⟨I7, nC, m, hn⟩ := yb I6
      exact hRR D ce s6 m H5 I7 qq hn (I3.fpOk (Nat.le_of_eq hL.symm) nC)
    · have ti := T.item Y yp yw yK yc i [] s5 _ H5 (fun _ _ => False) I5 (stat I5 n5) st5 go
      rw [yA] at ti
      refine thnF ti fun r s6 ⟨u, hr, h6⟩ => ?_
      subst hr
      refine thnF h6 fun _ s7 ⟨x, H7, I7, r7, y7, st7, n7⟩ => ?_
      have I7' := I7.pinned (stat I7 n7) (T.obj _ _ st7)
      have g8 := pg.run _ s7 _ H7 x u _ I7' r7 (step x H7 y7)
      rw [yp, yw, yA, ye, yx] at g8
      refine thn g8 fun _ s8 ⟨σ8, H8, I8, hw8, q8⟩ => ?_
      have fin : ∀ {s' : Shared} {H' : Hp}, Inv Y ([] ++ pinsAt fp s7.heap) σ8 H' s' → Nx H' → ∃ m, m < n ∧ ∃ i H', Inv Y [] (wipe σ vs) H' s' ∧ tn i s'.heap ∧ (∀ b ∈ fp, H' b = none) ∧ V i m H' := fun {s' H'} J' nx => by
        obtain ⟨m', hm, w'⟩ := hNx H' nx
        have pin : ∀ b ∈ fp, ∀ o, s7.heap.get? b = some o → s'.heap.get? b = some o ∧ H' b = none := fun b hb o z =>
          have y := J'.pin (b, o) (List.mem_append_right _ (List.mem_append_right _ (mem_pinsAt hb z)))
          ⟨y.1, y.2.1⟩
        refine ⟨m', hm, i + 1, H', (J'.unpinned (pins := [])).weak (by rw [← hw8, wipe_length]) (fun j v e => ?_), T.keep _ _ _ st7 fun b hb o z => (pin b hb o z).1, fun b hb => ?_, w'⟩
        · rw [← hw8] at e
          exact (wipe_some e).1
        · obtain ⟨o, z, _⟩ := T.obj _ _ st7 b hb
          exact (pin b hb o z).2
      refine wpAny_tests_nil ?_
      have e9 := pe.run _ s8 σ8 H8 _ I8 q8
      rw [yp, yw, yA, ye, yx] at e9
      refine thn e9 fun z s10 ⟨yv, H10, I10, r10, acc, hD10, hz10, nx⟩ => ?_
      have a10 := app_ok (E := notedBy (model X.prog X.w) X.A ce (CompFails (model X.prog X.w) X.A X.xe ce)) (Q := fun _ s5 => ∃ m, m < n ∧ ∃ i H', Inv Y [] (wipe σ vs) H' s5 ∧ tn i s5.heap ∧ (∀ b ∈ fp, H' b = none) ∧ V i m H') I10 hD10 hz10 r10 fun s11 I11 => fin I11 nx
      rw [yp, yw, yA] at a10
      exact a10
  have cv : ∀ r s', (match r with
      | .ok f => compEnds (model X.prog X.w) X.A X.xe use Qf (.ref D) ce (.ok f) s'
      | .error x => CompFails (model X.prog X.w) X.A X.xe ce x s') → compEnds (model X.prog X.w) X.A X.xe use Qf (.ref D) ce r s' := fun r s' z => by
    cases r with
    | ok f => exact z
    | error x => cases use <;> exact z
  exact codeAny_mono (codeAny_compStart_list loop (T.self X.A 0 _ _ _ st4 loop)) cv
theorem pe_lcX (hs : X.stack = X.env :: X.outer) (hf : X.env.frame = some X.env.locals) (tk : L2N.Takes X W) (hc : X.calm = true) (hN : X.N.Nodup) (hi : PI X tg iter wi) (ok : BlkOk X.N X.env.scope scope own)
    (hg : ∀ (xe : Value → Shared → Prop) (s : Shared) (H : Hp) (C : Addr) (cl : List (Str × Addr)) (fp : List Addr), PG (blkX X s H scope (compEnvC scope cl C X.env) fp xe) tg g)
    (he : ∀ (W : WX) (xe : Value → Shared → Prop) (s : Shared) (H : Hp) (C : Addr) (cl : List (Str × Addr)) (fp : List Addr), L2N.Takes (blkX X s H scope (compEnvC scope cl C X.env) fp xe) W → PE (blkX X s H scope (compEnvC scope cl C X.env) fp xe) elt (te W))
    (hfo : ∀ x, foldedSetIterable iter X.env x = pure x := by intro _; rfl) : PE X (.ListComp elt [⟨tg, iter, [], 0⟩] scope pos) (tLcX wi g te (own.map (·.2)) W) := by
  refine ⟨fun pins s σ H Q I h => ?_⟩
  rw [eval_ListComp]
  refine lcX_core hs hf tk hc hN I hi ok hg he hfo h fun D ce s' m H' I' q hn ⟨f0, f1, f2, f3, f4, f5⟩ => ⟨m, hn, fun h'' sb => ?_⟩
  exact ⟨.ref D, H', I'.turned (t' := s'.toks) (fun b o hb e => (sb.2 b hb).trans e) f0 f1 f3 f4 f5, rfl, q⟩
end
def mLcXl (g : Tgt) (e : ME) (vs : List Nat) : List MV → List MV → Env → Res (List MV × Env)
  | [], acc, ρ => .ok (acc, ρ)
  | x :: xs, acc, ρ => match setT g x (wipeM ρ vs) with
    | none => .stuck
    | some ρ1 => (e ρ1).bind fun y ρ3 => if acc.length < sizeLine ∧ ρ3.length = ρ.length then mLcXl g e vs xs (acc ++ [y]) ρ3 else .stuck
def mLcX (it : MI) (g : Tgt) (e : ME) (vs : List Nat) : ME := fun ρ => (it ρ).bind fun xs ρ1 => if perAt ρ1 vs then match mLcXl g e vs xs [] ρ1 with
  | .ok (ys, ρ2) => .ok (.own ys, backM ρ1 ρ2 vs)
  | .exc x ρ2 => if ρ2.length = ρ1.length then .exc x (backM ρ1 ρ2 vs) else .stuck
  | .stuck => .stuck else .stuck
section
variable {c : Ct}
def okX (c : Ct) (F Hk : Hp) (bp : List (Nat × Addr)) (σ : St) (Q : VK) (ρ0 : Env) (vs : List Nat) : Res (List MV × Env) → Prop
  | .ok (ys, ρ') => okO c F Hk bp σ Q (.ok (.own ys, backM ρ0 ρ' vs))
  | .exc x ρ' => ρ'.length = ρ0.length ∧ Wish c F Hk bp σ x (backM ρ0 ρ' vs)
  | .stuck => False
theorem okX.mono {F Hk Hk' : Hp} {bp : List (Nat × Addr)} {σ : St} {Q : VK} {ρ0 : Env} {vs : List Nat} {r : Res (List MV × Env)} (x : Ex Hk Hk') (h : okX c F Hk bp σ Q ρ0 vs r) : okX c F Hk' bp σ Q ρ0 vs r := by
  cases r with
  | ok a => exact okO.mono (r := .ok (.own a.1, backM ρ0 a.2 vs)) x h
  | exc e ρ => exact ⟨h.1, Wish.mono x h.2⟩
  | stuck => exact h
theorem rd_lcX {it : MI} {g : Tgt} {e : ME} {vs : List Nat} {σ : St} {H : Hp} {Q : VK} (hg : ∀ i ∈ g.slots, i ∈ vs) (hbs : ∀ i ∈ vs, c.bs.contains i = false) (h : rdO c (mLcX it g e vs) σ H Q) :
    tLcX (rdI c it) (gOf c.K g) (fun W => rdE ⟨c.K, c.mg, W, c.bs, c.J, c.Jm⟩ e) vs c.W σ H Q := by
  obtain ⟨F, Hk, bp, ρ, S, h⟩ := h
  have hb : ∀ q ∈ bp, q.1 ∉ vs := fun q hq z => nb S.2.1 (hbs _ z) q hq rfl
  have bl : ∀ ρ' : Env, RS c.K F Hk H bp σ ρ → ∀ q ∈ bp, q.1 < σ.length := fun _ S q hq => lt_get (S.bor q hq)
  refine ⟨F, Hk, bp, ρ, S, ?_⟩
  unfold mLcX at h
  cases ei : it ρ with
  | stuck => rw [ei] at h; exact h
  | exc x ρ' => rw [ei] at h; exact h
  | ok p =>
    obtain ⟨xs, ρ1⟩ := p
    rw [ei] at h
    intro Hk1 H1 J x1 S1 wk D hD
    have h := okO.mono x1 h
    simp only [Res.bind] at h
    split at h
    · rename_i hper
      have h : okX c F Hk1 bp σ Q ρ1 vs (mLcXl g e vs xs [] ρ1) := by
        cases e2 : mLcXl g e vs xs [] ρ1 with
        | ok q => rw [e2] at h; exact h
        | exc x r =>
          rw [e2] at h
          simp only at h
          split at h
          · rename_i hl; exact ⟨hl, h⟩
          · exact h.elim
        | stuck => rw [e2] at h; exact h
      have fD : F D = none := by
        cases e : F D with
        | none => rfl
        | some o => have := S1.fr D o e; rw [hD] at this; cases this
      have p0 : ∀ i ∈ vs, ∀ x, ρ1[i]? = some (some x) → ∃ v, σ[i]? = some (some v) ∧ RV c.K Hk1 x v := fun i hi x hx => by
        have z := List.all_eq_true.mp hper i hi
        rw [hx] at z
        exact S1.get hx z
      have bk : ∀ {Hk' H' : Hp} {ws : List V} {ρ' : Env}, Ex Hk1 Hk' → RS c.K (upd F D (.lst ws)) Hk' H' bp (wipe σ vs) (wipeM ρ' vs) → ρ'.length = ρ1.length → RS c.K (upd F D (.lst ws)) Hk' H' bp σ (backM ρ1 ρ' vs) := fun {Hk' H' ws ρ'} x' S' hl =>
        RS.back S' (fun i hi x hx => by
          obtain ⟨v, ev, rv⟩ := p0 i hi x hx
          exact ⟨v, ev, RV.mono x' _ _ rv⟩) hl.symm S1.len hb
      refine ⟨fun i m H' => m = xs.length - i ∧ i ≤ xs.length ∧ ∃ Hk' ρ' acc ws, Ex Hk1 Hk' ∧ RS c.K (upd F D (.lst ws)) Hk' H' bp (wipe σ vs) (wipeM ρ' vs) ∧ RVs c.K Hk' acc ws ∧ ρ'.length = ρ1.length ∧ okX c F Hk' bp σ Q ρ1 vs (mLcXl g e vs (xs.drop i) acc ρ'),
        ⟨xs.length, by simp, Nat.zero_le _, Hk1, ρ1, [], [], Ex.refl _, (S1.wipe vs hb).inFr hD, RVs.nil.mpr rfl, rfl, h⟩, ?_⟩
      rintro i m H' ⟨rfl, hi, Hk', ρ', acc, ws, x', S', ra, hl, h'⟩
      by_cases hlt : i < xs.length
      · refine .inr ⟨wk.go i H' (x'.trans S'.ex) hlt, fun H2 => ∃ Hk2 ρ2 acc2 ws2, Ex Hk1 Hk2 ∧ RS c.K (upd F D (.lst ws2)) Hk2 H2 bp (wipe σ vs) (wipeM ρ2 vs) ∧ RVs c.K Hk2 acc2 ws2 ∧ ρ2.length = ρ1.length ∧ okX c F Hk2 bp σ Q ρ1 vs (mLcXl g e vs (xs.drop (i + 1)) acc2 ρ2),
          fun H2 z => ⟨xs.length - (i + 1), by omega, rfl, hlt, z⟩, fun x H2 y => ?_⟩
        obtain ⟨z, ez, hz⟩ := wk.yld i H' x H2 (x'.trans S'.ex) hlt y
        have ed : xs.drop i = z :: xs.drop (i + 1) := by
          rw [List.drop_eq_getElem_cons hlt]
          rw [List.getElem?_eq_getElem hlt] at ez
          cases ez; rfl
        rw [ed] at h'
        have fin : ∀ Hk3, Ex Hk' Hk3 → RS c.K (upd F D (.lst ws)) Hk3 H2 bp (wipe σ vs) (wipeM ρ' vs) → RV c.K Hk3 z x →
            gOf c.K g x (wipe σ vs) H2 fun σ2 H2 => wipe σ2 vs = wipe σ vs ∧ rdE ⟨c.K, c.mg, fun cls d _ H => c.W cls d σ H, c.bs, c.J, c.Jm⟩ e σ2 H2 fun y H4 => ∃ acc, H4 D = some (.lst acc) ∧ acc.length < sizeLine ∧
              (∃ Hk2 ρ2 acc2 ws2, Ex Hk1 Hk2 ∧ RS c.K (upd F D (.lst ws2)) Hk2 (upd H4 D (.lst (acc ++ [y]))) bp (wipe σ vs) (wipeM ρ2 vs) ∧ RVs c.K Hk2 acc2 ws2 ∧ ρ2.length = ρ1.length ∧ okX c F Hk2 bp σ Q ρ1 vs (mLcXl g e vs (xs.drop (i + 1)) acc2 ρ2)) := fun Hk3 x3 S3 r3 => by
          have h' := okX.mono x3 h'
          unfold mLcXl at h'
          cases eg : setT g z (wipeM ρ' vs) with
          | none => rw [eg] at h'; exact h'.elim
          | some ρ3 =>
            rw [eg] at h'
            refine g_rd hb hg S3 r3 eg fun σ2 S4 w2 => ⟨by rw [w2, wipe_wipe], ?_⟩
            have w2' : wipe σ2 vs = wipe σ vs := by rw [w2, wipe_wipe]
            refine ⟨upd F D (.lst ws), Hk3, bp, ρ3, ⟨S4, S.2.1, c.Jm _ _ _ (Ex.new fD) S.2.2⟩, ?_⟩
            simp only [Res.bind] at h'
            cases ee : e ρ3 with
            | stuck => rw [ee] at h'; exact h'.elim
            | exc xx ρ4 =>
              rw [ee] at h'
              obtain ⟨hl4, h6⟩ := h'
              intro Hk5 H5 cls d x5 S5 r5
              have S6 := S5.wipe vs hb
              rw [w2'] at S6
              have S7 := bk (x'.trans (x3.trans x5)) S6 hl4
              have S8 := (S7.outFr (xs := acc) fD (ra.mono (x3.trans x5))).drop fun q hq => by rw [← S7.len]; exact lt_get (S7.bor q hq)
              exact h6 Hk5 H5 cls d x5 S8 r5
            | ok p =>
              obtain ⟨yy, ρ5⟩ := p
              rw [ee] at h'
              simp only at h'
              intro Hk5 H5 y x5 S6 r6
              split at h'
              · rename_i hz
                have ra' := ra.mono (x3.trans x5)
                refine ⟨ws, S6.fr D _ upd_same, by rw [ra'.length]; exact hz.1, Hk5, ρ5, acc ++ [yy], ws ++ [y], x'.trans (x3.trans x5), ?_, ra'.append (RVs.cons.mpr ⟨y, [], rfl, r6, RVs.nil.mpr rfl⟩), by rw [hz.2, hl], okX.mono x5 h'⟩
                have := (S6.wipe vs hb)
                rw [w2'] at this
                exact this.grow
              · exact h'.elim
        rcases hz with ⟨rfl, r⟩ | ⟨p, us, ys, hp, rfl, rfl, rfl, r⟩
        · exact fin Hk' (Ex.refl _) S' (RV.mono x' _ _ r)
        · have xn := Ex.new (o := .tup us) (S'.ex.back hp)
          exact fin _ xn (S'.new hp) (RV.tup.mpr ⟨p, us, rfl, SqT.of upd_same, r.mono (x'.trans xn)⟩)
      · have e : i = xs.length := by omega
        subst e
        rw [List.drop_length] at h'
        exact .inl ⟨wk.stop H' (x'.trans S'.ex), h' _ _ _ (Ex.refl _) ((bk x' S' hl).outFr fD ra)⟩
    · exact h.elim
end
section
variable {X : Cx} {c : Ct} {elt tg iter : Expr} {scope : Scope} {own : List (Str × Nat)} {pos : Pos} {it : MI} {g : Tgt} {e : ME}
theorem mo_lcX (hs : X.stack = X.env :: X.outer) (hf : X.env.frame = some X.env.locals) (tk : L2N.Takes X c.W) (hc : X.calm = true) (hN : X.N.Nodup) (hi : PI X tg iter (rdI c it)) (ok : BlkOk X.N X.env.scope scope own)
    (hg : ∀ (xe : Value → Shared → Prop) (s : Shared) (H : Hp) (C : Addr) (cl : List (Str × Addr)) (fp : List Addr), PG (blkX X s H scope (compEnvC scope cl C X.env) fp xe) tg (gOf X.K g))
    (he : ∀ (W : WX) (xe : Value → Shared → Prop) (s : Shared) (H : Hp) (C : Addr) (cl : List (Str × Addr)) (fp : List Addr), L2N.Takes (blkX X s H scope (compEnvC scope cl C X.env) fp xe) W → PE (blkX X s H scope (compEnvC scope cl C X.env) fp xe) elt (rdE ⟨c.K, c.mg, W, c.bs, c.J, c.Jm⟩ e))
    (hgs : ∀ i ∈ g.slots, i ∈ own.map (·.2) := by decide) (hbs : ∀ i ∈ own.map (·.2), c.bs.contains i = false := by decide) (hK : c.K = X.K := by rfl) (hfo : ∀ x, foldedSetIterable iter X.env x = pure x := by intro _; rfl) :
    PE X (.ListComp elt [⟨tg, iter, [], 0⟩] scope pos) (rdO c (mLcX it g e (own.map (·.2)))) := PEw (pe_lcX (te := fun W => rdE ⟨c.K, c.mg, W, c.bs, c.J, c.Jm⟩ e) hs hf tk hc hN hi ok hg he hfo) fun σ H Q h => by rw [← hK]; exact rd_lcX hgs hbs h
end
theorem mCall_of0 {f : MF} {a : MA} {ρ : Env} {q : MV × Env} (h : mCall0 f a ρ = .ok q) : mCall f a ρ = .ok q := by
  unfold mCall0 at h
  unfold mCall
  cases e : a ρ with
  | stuck => rw [e] at h; cases h
  | exc x r => rw [e] at h; cases h
  | ok p =>
    rw [e] at h
    simp only [Res.bind] at h ⊢
    split at h
    · rename_i v b e2; rw [e2]; exact h
    · cases h
theorem mFz_of {a a' : ME} (he : ∀ ρ q, a ρ = .ok q → a' ρ = .ok q) {ρ : Env} {q : MV × Env} (h : mFz a ρ = .ok q) : mFz a' ρ = .ok q := by
  unfold mFz at h ⊢
  cases e : a ρ with
  | stuck => rw [e] at h; cases h
  | exc x r => rw [e] at h; cases h
  | ok p => rw [he _ _ e]; rw [e] at h; exact h
theorem mLcXl_of {g : Tgt} {e e' : ME} {vs : List Nat} (he : ∀ ρ q, e ρ = .ok q → e' ρ = .ok q) : ∀ (xs acc : List MV) (ρ : Env) (r : List MV × Env), mLcLoop g mYes e vs xs acc ρ = .ok r → mLcXl g e' vs xs acc ρ = .ok r
  | [], _, _, _, h => h
  | x :: xs, acc, ρ, r, h => by
    unfold mLcLoop at h
    unfold mLcXl
    cases eg : setT g x (wipeM ρ vs) with
    | none => rw [eg] at h; cases h
    | some ρ1 =>
      rw [eg] at h
      simp only [mYes, Res.b0, if_true] at h ⊢
      cases e2 : e ρ1 with
      | stuck => rw [e2] at h; cases h
      | exc y z => rw [e2] at h; cases h
      | ok p =>
        rw [e2] at h
        rw [he _ _ e2]
        simp only [Res.bind] at h ⊢
        split at h
        · rename_i hc; rw [if_pos hc]; exact mLcXl_of he xs _ _ _ h
        · cases h
theorem mLcX_of {it : MI} {g : Tgt} {e e' : ME} {vs : List Nat} {ρ : Env} {r : MV × Env} (he : ∀ ρ q, e ρ = .ok q → e' ρ = .ok q) (h : mLcO it g mYes e vs ρ = .ok r) : mLcX it g e' vs ρ = .ok r := by
  unfold mLcO at h
  unfold mLcX
  cases ei : it ρ with
  | stuck => rw [ei] at h; cases h
  | exc y z => rw [ei] at h; cases h
  | ok p =>
    rw [ei] at h
    simp only [Res.bind] at h ⊢
    split at h
    · rename_i hp
      rw [if_pos hp]
      cases el : mLcLoop g mYes e vs p.1 [] p.2 with
      | stuck => rw [el] at h; cases h
      | exc y z => rw [el] at h; cases h
      | ok q => rw [mLcXl_of he _ _ _ _ el]; rw [el] at h; exact h
    · cases h
theorem set_back {ρ : Env} {v : Nat} {x : Option MV} (h : ρ[v]? = some x) : ρ.set v x = ρ := by
  refine List.ext_getElem? fun j => ?_
  by_cases e : v = j
  · subst e; rw [List.getElem?_set_self (lt_get h), h]
  · rw [List.getElem?_set_ne e]
def seqX : List (MV ⊕ MX) → List MV ⊕ MX
  | [] => .inl []
  | .inl z :: r => match seqX r with | .inl zs => .inl (z :: zs) | .inr x => .inr x
  | .inr x :: _ => .inr x
theorem mLcX_it {α : Type} {it : MI} {e : ME} {v : Nat} {ρ : Env} {l : List α} (item : α → MV) (y : α → MV ⊕ MX) (hi : it ρ = .ok (l.map item, ρ)) (hv : ρ[v]? = some none)
    (he : ∀ a ∈ l, e (ρ.set v (some (item a))) = match y a with | .inl z => .ok (z, ρ.set v (some (item a))) | .inr x => .exc x (ρ.set v (some (item a)))) (hz : l.length ≤ sizeLine) :
    mLcX it (.nm v) e [v] ρ = match seqX (l.map y) with | .inl zs => .ok (.own zs, ρ) | .inr x => .exc x ρ := by
  have hlt : v < ρ.length := lt_get hv
  have key : ∀ (m : List α) (acc : List MV) (ρ' : Env), (∀ a ∈ m, a ∈ l) → ρ'.set v none = ρ → acc.length + m.length ≤ sizeLine → ∃ ρ'', ρ''.set v none = ρ ∧ mLcXl (.nm v) e [v] (m.map item) acc ρ' = match seqX (m.map y) with | .inl zs => .ok (acc ++ zs, ρ'') | .inr x => .exc x ρ'' := by
    intro m
    induction m with
    | nil => intro acc ρ' _ h _; exact ⟨ρ', h, by simp [mLcXl, seqX]⟩
    | cons a m ih =>
      intro acc ρ' hm h hl
      have wl : wipeM ρ' [v] = ρ := h
      have l1 : ρ'.length = ρ.length := by rw [← h, List.length_set]
      have ha := he a (hm a (List.mem_cons_self ..))
      rw [List.map_cons, List.map_cons]
      unfold mLcXl
      rw [wl]
      simp only [setT, if_pos hlt]
      cases ey : y a with
      | inr x =>
        rw [ey] at ha
        rw [ha]
        refine ⟨ρ.set v (some (item a)), by rw [List.set_set]; exact (set_back hv), ?_⟩
        simp only [Res.bind, seqX]
      | inl z =>
        rw [ey] at ha
        rw [ha]
        simp only [Res.bind, List.length_set]
        rw [if_pos ⟨by rw [List.length_cons] at hl; omega, l1.symm⟩]
        obtain ⟨ρ'', h1, h2⟩ := ih (acc ++ [z]) (ρ.set v (some (item a))) (fun b hb => hm b (List.mem_cons_of_mem _ hb)) (by rw [List.set_set]; exact (set_back hv)) (by rw [List.length_append, List.length_singleton]; rw [List.length_cons] at hl; omega)
        refine ⟨ρ'', h1, ?_⟩
        rw [h2]
        simp only [seqX]
        cases seqX (m.map y) with
        | inl zs => simp
        | inr x => rfl
  obtain ⟨ρ'', h1, h2⟩ := key l [] ρ (fun _ h => h) (set_back hv) (by simpa using hz)
  have hp : perAt ρ [v] = true := by simp [perAt, hv]
  have bk : backM ρ ρ'' [v] = ρ := by simp [backM, hv]; exact h1
  unfold mLcX
  rw [hi]
  simp only [Res.bind, if_pos hp, h2]
  have ll : ρ''.length = ρ.length := by rw [← h1, List.length_set]
  cases seqX (l.map y) with
  | inl zs => simp only [List.nil_append, bk]
  | inr x => simp only [if_pos ll, bk]
end Tm
set_option Elab.async false
set_option linter.all false
set_option maxRecDepth 100000
set_option maxHeartbeats 4000000
namespace Tm
open PySem L2
def fnNames : List Str := ["ahead_of_last", "all_or_none", "fill", "five_on", "half_up", "high_half", "lacking", "last_figure", "low_half", "lowest_two", "nine_less", "none_or_all", "not_all", "one_of_none", "one_of_two", "one_or_none", "order_byte", "other_twos", "product_byte", "sign_below", "six_on", "ten_high", "ten_low", "ten_or_none", "top_two"]
def m_lmixed : MS := mSeq (mAsg (mLst (mCons (mC (.int 2147483629)) (mCons (mC (.int 2147483587)) (mCons (mC (.int 2147483579)) (mCons (mC (.int 2147483563)) (mCons (mC (.int 2147483549)) (mCons (mC (.int 2147483543)) (mCons (mC (.int 2147483497)) (mCons (mC (.int 2147483489)) (mNil)))))))))) (gSet 3)) (mSeq (mAsg (mOp fMod (mOp fAdd (mOp fAdd (mOp fAdd (mVar 0) (mOp fMul (mC (.int 7919)) (mVar 2))) (mOp fMul (mC (.int 104729)) (mVar 1))) (mC (.int 13))) (mC (.int 2147483647))) (gSet 4)) (mSeq (mAsg (mOp fMod (mOp fPow (mVar 4) (mC (.int 5))) (mOp fIx (mVar 3) (mOp fMod (mVar 1) (mC (.int 8))))) (gSet 4)) (mSeq (mAsg (mOp fMod (mOp fAdd (mOp fAdd (mVar 4) (mOp fMul (mC (.int 40692)) (mVar 2))) (mVar 1)) (mC (.int 2147483647))) (gSet 5)) (mRet (mOp fAdd (mOp fMul (mOp fMod (mOp fPow (mVar 5) (mC (.int 5))) (mC (.int 2147483647))) (mC (.int 1000000007))) (mVar 4))))))
def f_lmixed : MF := mFn 6 [] m_lmixed
def b_ldraws_0 : MS := mIfS (mTest (mOp fGt (mVar 4) (mC (.int 0)))) (mSeq (mDrop (mLm lmAppend 3 (mCons (mOp fMod (mVar 4) (mOp fIx (mVar 2) (mVar 5))) (mNil)))) (mAsg (mOp fDiv (mVar 4) (mOp fIx (mVar 2) (mVar 5))) (gSet 4))) (mDrop (mLm lmAppend 3 (mCons (mOp fMod (mFz (mCall f_lmixed (mCons (mVar 0) (mCons (mVar 5) (mCons (mVar 1) (mNil)))))) (mOp fIx (mVar 2) (mVar 5))) (mNil))))
def m_ldraws : MS := mSeq (mSetO 3 (mLstO (mNil))) (mSeq (mAsg (mC (.int 0)) (gSet 4)) (mSeq (mIfS (mTest (mOp fGe (mBlt bAbs (mCons (mVar 0) (mNil))) (mOp fPow (mC (.int 10)) (mC (.int 18))))) (mAsg (mBlt bAbs (mCons (mVar 0) (mNil))) (gSet 4)) (mPass)) (mSeq (mFor (mR1 (mCons (mBlt bLen (mCons (mVar 2) (mNil))) (mNil))) (gSet 5) (b_ldraws_0)) (mRet (mMove 3)))))
def f_ldraws : MF := mFn 6 [] m_ldraws
def m_lcell : MS := mSeq (mIfS (mTest (mOp fLt (mVar 1) (mBlt bLen (mCons (mVar 0) (mNil))))) (mRet (mOp fIx (mVar 0) (mVar 1))) (mPass)) (mSeq (mIfS (mTest (mOp fEq (mBlt bLen (mCons (mVar 0) (mNil))) (mC (.int 0)))) (mRet (mOp fMul (mC (.int 7919)) (mOp fAdd (mVar 1) (mC (.int 1))))) (mPass)) (mRet (mOp fAdd (mOp fIx (mVar 0) (mOp fMod (mVar 1) (mBlt bLen (mCons (mVar 0) (mNil))))) (mOp fMul (mC (.int 104729)) (mVar 1)))))
def f_lcell : MF := mFn 2 [] m_lcell
def m_lwhole : MS := mRet (mBv (mAndT (mTest (mBlt bIsi (mCons (mVar 0) (mCons (mC (.raw (.ty "int"))) mNil)))) (mTest (mBv (mNotT (mTest (mBlt bIsi (mCons (mVar 0) (mCons (mC (.raw (.ty "bool"))) mNil)))))))))
def f_lwhole : MF := mFn 1 [] m_lwhole
def m_lbytes : MS := mSeq (mIfS (mOrT (mNotT (mTest (mBlt bIsi (mCons (mVar 0) (mCons (mC (.raw (.ty "tuple"))) mNil))))) (mTest (mOp fNe (mBlt bLen (mCons (mVar 0) (mNil))) (mVar 1)))) (mRet (mC (.bl false))) (mPass)) (mRet (mBlt bAll (mCons (mFz (mLcO (mItV (mVar 0)) (.nm 2) (mYes) (mBv (mAndT (mTest (mFz (mCall0 f_lwhole (mCons (mVar 2) (mNil))))) (mTest (mChain fLe fLt (mC (.int 0)) (mVar 2) (mC (.int 256)))))) [2])) (mNil))))
def f_lbytes : MF := mFn 3 [] m_lbytes
def m_lbyte_text : MS := mRet (mOp fAdd (mOp fIx (mC (.str "0123456789ABCDEF")) (mOp fDiv (mVar 0) (mC (.int 16)))) (mOp fIx (mC (.str "0123456789ABCDEF")) (mOp fMod (mVar 0) (mC (.int 16)))))
def f_lbyte_text : MF := mFn 1 [] m_lbyte_text
def m_ltext3 : MS := mRet (mSm smJoin (mC (.str " ")) (mCons (mFz (mLcO (mItV (mVar 0)) (.nm 1) (mYes) (mFz (mCall0 f_lbyte_text (mCons (mVar 1) (mNil)))) [1])) (mNil)))
def f_ltext3 : MF := mFn 2 [] m_ltext3
def m_lspoilt2 : MS := mSeq (mAsg (mOp fMod (mOp fIx (mVar 1) (mC (.int 0))) (mOp fAdd (mBlt bLen (mCons (mVar 0) (mNil))) (mC (.int 1)))) (gSet 2)) (mSeq (mAsg (mC (.str " !\"#$&'()*+,-./0123456789:;<=>?@ABCDEFGHIJKLMNOPQRSTUVWXYZ[\\]^_`abcdefghijklmnopqrstuvwxyz{|}~")) (gSet 3)) (mSeq (mAsg (mOp fIx (mVar 3) (mOp fMod (mOp fIx (mVar 1) (mC (.int 2))) (mBlt bLen (mCons (mVar 3) (mNil))))) (gSet 4)) (mSeq (mIfS (mTest (mOp fLt (mOp fIx (mVar 1) (mC (.int 1))) (mC (.int 3)))) (mAsg (mOp fIx (mC (.str " 0123456789ABCDEFabcdef")) (mOp fMod (mOp fIx (mVar 1) (mC (.int 2))) (mC (.int 23)))) (gSet 4)) (mPass)) (mSeq (mIfS (mTest (mOp fEq (mOp fIx (mVar 1) (mC (.int 3))) (mC (.int 0)))) (mRet (mOp fAdd (mOp fAdd (mSl (mVar 0) (mNo) (mPart (mVar 2))) (mVar 4)) (mSl (mVar 0) (mPart (mVar 2)) (mNo)))) (mPass)) (mSeq (mIfS (mTest (mOp fEq (mOp fIx (mVar 1) (mC (.int 3))) (mC (.int 1)))) (mRet (mOp fAdd (mOp fAdd (mSl (mVar 0) (mNo) (mPart (mVar 2))) (mVar 4)) (mSl (mVar 0) (mPart (mOp fAdd (mVar 2) (mC (.int 1)))) (mNo)))) (mPass)) (mSeq (mIfS (mTest (mOp fEq (mOp fIx (mVar 1) (mC (.int 3))) (mC (.int 2)))) (mRet (mOp fAdd (mSl (mVar 0) (mNo) (mPart (mVar 2))) (mSl (mVar 0) (mPart (mOp fAdd (mVar 2) (mC (.int 1)))) (mNo)))) (mPass)) (mRet (mOp fAdd (mSl (mVar 0) (mPart (mVar 2)) (mNo)) (mSl (mVar 0) (mNo) (mPart (mVar 2)))))))))))
def f_lspoilt2 : MF := mFn 5 [] m_lspoilt2
def m_pbyte_told : MS := mSeq (mIfS (mOrT (mTest (mOp fNe (mBlt bLen (mCons (mVar 0) (mNil))) (mC (.int 2)))) (mNotT (mTest (mBlt bAll (mCons (mFz (mLcO (mItV (mVar 0)) (.nm 1) (mYes) (mOp fIn (mVar 1) (mC (.str "0123456789ABCDEF"))) [1])) (mNil)))))) (mRaise0 "NoText") (mPass)) (mRet (mOp fAdd (mOp fMul (mC (.int 16)) (mSm smIndex (mC (.str "0123456789ABCDEF")) (mCons (mOp fIx (mVar 0) (mC (.int 0))) (mNil)))) (mSm smIndex (mC (.str "0123456789ABCDEF")) (mCons (mOp fIx (mVar 0) (mC (.int 1))) (mNil)))))
def f_pbyte_told : MF := mFn 2 [] m_pbyte_told
def m_punhexed : MS := mSeq (mIfS (mTest (mOp fEq (mVar 0) (mC (.str "")))) (mRet (mTup (mNil))) (mPass)) (mRet (mBlt bTuple (mCons (mFz (mLcX (mItV (mSm smSplit (mVar 0) (mCons (mC (.str " ")) (mNil)))) (.nm 1) (mFz (mCall f_pbyte_told (mCons (mVar 1) (mNil)))) [1])) (mNil))))
def f_punhexed : MF := mFn 2 [] m_punhexed
def b_lseen2_0 : MS := mAsg (mTup (mCons (mC (.str "told")) (mCons (mFz (mCall f_punhexed (mCons (mVar 0) (mNil)))) (mNil)))) (gSet 1)
def m_lseen2 : MS := mSeq (mAsg (mC .non) (gSet 1)) (mSeq (mTry 2 [("NoText", true)] (b_lseen2_0) (fun ex => mSeq (mAsg (mTup (mCons (mC (.str "refused")) (mCons (mC .non) (mNil)))) (gSet 1)) (mIfS (mOrT (mTest (mExIs ex [("NoText", false)])) (mOrT (mTest (mExIs ex [("NoText", false)])) (mNotT (mTest (mExIs ex [("NoText", true)]))))) (mAsg (mC .non) (gSet 1)) (mPass)))) (mRet (mVar 1)))
def f_lseen2 : MF := mFn 3 [] m_lseen2
def b_lrow_0 : MS := mSeq (mIfS (mOrT (mTest (mOp fNe (mBlt bLen (mCons (mVar 2) (mNil))) (mC (.int 2)))) (mNotT (mTest (mBlt bAll (mCons (mFz (mLcO (mItV (mVar 2)) (.nm 3) (mYes) (mOp fIn (mVar 3) (mC (.str "0123456789ABCDEF"))) [3])) (mNil)))))) (mRet (mC .non)) (mPass)) (mDrop (mLm lmAppend 1 (mCons (mOp fAdd (mOp fMul (mC (.int 16)) (mSm smIndex (mC (.str "0123456789ABCDEF")) (mCons (mOp fIx (mVar 2) (mC (.int 0))) (mNil)))) (mSm smIndex (mC (.str "0123456789ABCDEF")) (mCons (mOp fIx (mVar 2) (mC (.int 1))) (mNil)))) (mNil))))
def m_lrow : MS := mSeq (mIfS (mTest (mOp fEq (mVar 0) (mC (.str "")))) (mRet (mTup (mNil))) (mPass)) (mSeq (mSetO 1 (mLstO (mNil))) (mSeq (mFor (mItV (mSm smSplit (mVar 0) (mCons (mC (.str " ")) (mNil)))) (gSet 2) (b_lrow_0)) (mRet (mBlt bTuple (mCons (mVar 1) (mNil))))))
def f_lrow : MF := mFn 4 [] m_lrow
def m_phexed : MS := mRet (mSm smJoin (mC (.str " ")) (mCons (mFz (mLcO (mItV (mVar 0)) (.nm 1) (mYes) (mOp fAdd (mOp fIx (mC (.str "0123456789ABCDEF")) (mOp fDiv (mVar 1) (mC (.int 16)))) (mOp fIx (mC (.str "0123456789ABCDEF")) (mOp fMod (mVar 1) (mC (.int 16))))) [1])) (mNil)))
def f_phexed : MF := mFn 2 [] m_phexed
def b_law16_0 : MS := mSeq (mAsg (mFz (mCall f_lseen2 (mCons (mVar 5) (mNil)))) (gSet 7)) (mSeq (mAsg (mFz (mCall f_lrow (mCons (mVar 5) (mNil)))) (gSet 8)) (mSeq (mIfS (mTest (mOp fNe (mVar 7) (mTup (mCons (mOp fIx (mLst (mCons (mC (.str "told")) (mCons (mC (.str "refused")) (mNil)))) (mBlt bInt (mCons (mOp fIsN (mVar 8) (mC .non)) (mNil)))) (mCons (mVar 8) (mNil)))))) (mRet (mC (.bl false))) (mPass)) (mIfS (mAndT (mTest (mOp fNotN (mVar 8) (mC .non))) (mNotT (mTest (mFz (mCall f_lbytes (mCons (mOp fIx (mVar 7) (mC (.int 1))) (mCons (mBlt bLen (mCons (mVar 8) (mNil))) (mNil)))))))) (mRet (mC (.bl false))) (mPass))))
def b_law16_1 : MS := mSeq (mAsg (mFz (mCall f_ldraws (mCons (mFz (mCall f_lcell (mCons (mVar 0) (mCons (mVar 1) (mNil))))) (mCons (mOp fAdd (mC (.int 51)) (mVar 1)) (mCons (mOp fAdd (mLst (mCons (mC (.int 17)) (mCons (mC (.int 1997)) (mCons (mC (.int 6)) (mCons (mC (.int 94)) (mCons (mC (.int 4)) (mNil))))))) (mOp fMul (mLst (mCons (mC (.int 256)) (mNil))) (mC (.int 16)))) (mNil)))))) (gSet 2)) (mSeq (mAsg (mOp fMul (mBlt bTuple (mCons (mSl (mVar 2) (mPart (mC (.int 5))) (mPart (mOp fAdd (mC (.int 5)) (mOp fIx (mVar 2) (mC (.int 0)))))) (mNil))) (mOp fIx (mLst (mCons (mC (.int 1)) (mCons (mC (.int 40)) (mNil)))) (mBlt bInt (mCons (mOp fEq (mVar 1) (mC (.int 3))) (mNil))))) (gSet 3)) (mSeq (mAsg (mFz (mCall f_ltext3 (mCons (mVar 3) (mNil)))) (gSet 4)) (mSeq (mIfS (mOrT (mTest (mOp fNe (mFz (mCall f_phexed (mCons (mVar 3) (mNil)))) (mVar 4))) (mTest (mOp fNe (mFz (mCall f_punhexed (mCons (mVar 4) (mNil)))) (mVar 3)))) (mRet (mC (.bl false))) (mPass)) (mSeq (mAsg (mFz (mCall f_lspoilt2 (mCons (mVar 4) (mCons (mSl (mVar 2) (mPart (mC (.int 1))) (mPart (mC (.int 5)))) (mNil))))) (gSet 5)) (mFor (mR1 (mCons (mC (.int 2)) (mNil))) (gSet 6) (b_law16_0))))))
def m_law16 : MS := mSeq (mFor (mR1 (mCons (mC (.int 6)) (mNil))) (gSet 1) (b_law16_1)) (mRet (mC (.bl true)))
def f_law16 : MF := mFn 9 [] m_law16
theorem lcell_ok (ns : List Int) (k : Nat) : ∃ v : Int, f_lcell [.scr ns, .int k] = .ok (.int v, []) := by
  unfold f_lcell
  by_cases h : (k : Int) < ns.length
  · have h' : k < ns.length := by omega
    refine ⟨ns[k], mFn_ok ?_⟩
    simp [m_lcell, h', atI_ge]
  · by_cases h0 : ns.length = 0
    · have h' : ns = [] := List.length_eq_zero_iff.mp h0
      subst h'
      refine ⟨7919 * (k + 1), mFn_ok ?_⟩
      simp [m_lcell, mulOk_l]
    · have h' : ¬ k < ns.length := by omega
      have hp : (0 : Int) < ns.length := by omega
      have e := fmod_ge' (a := k) hp
      have e2 := fmod_lt' (a := k) hp
      have h2 : ((k : Int).fmod ns.length).toNat < ns.length := by omega
      have h3 : ¬ ns = [] := by intro h; subst h; exact h0 rfl
      have h4 : ¬ ((ns.length : Int) = 0) := by omega
      refine ⟨ns[((k : Int).fmod ns.length).toNat] + 104729 * k, mFn_ok ?_⟩
      simp [m_lcell, h', h3, h4, atI_ge e, h2, mulOk_l]
theorem lmixed_ok (a b c : Int) : ∃ v : Int, f_lmixed [.int a, .int b, .int c] = .ok (.int v, []) := by
  unfold f_lmixed
  have e := fmod_ge' (a := b) (b := 8) (by decide)
  have e2 := fmod_lt' (a := b) (b := 8) (by decide)
  generalize hi : b.fmod 8 = i at e e2
  obtain ⟨p, hp, hp1, hp2⟩ : ∃ p : Int, atI [MV.int 2147483629, .int 2147483587, .int 2147483579, .int 2147483563, .int 2147483549, .int 2147483543, .int 2147483497, .int 2147483489] i = some (.int p) ∧ 0 < p ∧ p < 2147483648 := by
    obtain ⟨j, rfl⟩ := Int.eq_ofNat_of_zero_le e
    match j, e2 with
    | 0, _ => exact ⟨_, rfl, by decide, by decide⟩
    | 1, _ => exact ⟨_, rfl, by decide, by decide⟩
    | 2, _ => exact ⟨_, rfl, by decide, by decide⟩
    | 3, _ => exact ⟨_, rfl, by decide, by decide⟩
    | 4, _ => exact ⟨_, rfl, by decide, by decide⟩
    | 5, _ => exact ⟨_, rfl, by decide, by decide⟩
    | 6, _ => exact ⟨_, rfl, by decide, by decide⟩
    | 7, _ => exact ⟨_, rfl, by decide, by decide⟩
    | j + 8, h => exact absurd h (by omega)
  have b1 : ∀ x : Int, 0 ≤ x.fmod 2147483647 ∧ x.fmod 2147483647 < 2147483647 := fun x => ⟨fmod_ge' (by decide), fmod_lt' (by decide)⟩
  have b2 : ∀ x : Int, (x.fmod 2147483647).natAbs < 18446744073709551616 := fun x => by have := b1 x; omega
  have b3 : ∀ x : Int, mulOk (x.fmod 2147483647) 1000000007 = true := fun x => mulOk_r (by decide) (by decide)
  have h : ∃ v ρ, m_lmixed [some (.int a), some (.int b), some (.int c), none, none, none] = .ok (.rt (.int v), ρ) := by
    simp [m_lmixed, szOk_small, mulOk_l, hi, hp, hp1, Int.ne_of_gt hp1, b2, b3]
  obtain ⟨v, ρ, h⟩ := h
  exact ⟨v, mFn_ok ⟨ρ, h⟩⟩
def DrawsAre (ws ds : List Int) : Prop := ds.length = ws.length ∧ ∀ i (h : i < ws.length) (h' : i < ds.length), 0 ≤ ds[i] ∧ ds[i] < ws[i]
theorem ldraws_ok (cell salt : Int) (ws : List Int) (hn : ws.length < 1000) (hw : ∀ w ∈ ws, 0 < w ∧ divOk w = true) : ∃ ds : List Int, DrawsAre ws ds ∧ f_ldraws [.int cell, .int salt, .lst (ws.map .int)] = .ok (.own (ds.map .int), []) := by
  have key : ∀ l0 : Int, ∃ ρ', mLoop (gSet 5) b_ldraws_0 (rngM 0 1 ws.length) [some (.int cell), some (.int salt), some (.lst (ws.map .int)), some (.own []), some (.int l0), none] = .ok (.nx, ρ') ∧ ∃ ds l v, DrawsAre (ws.take ws.length) ds ∧ ρ' = [some (.int cell), some (.int salt), some (.lst (ws.map .int)), some (.own (ds.map .int)), some (.int l), v] := by
    intro l0
    refine loop_rng (fun i ρ => ∃ ds l v, DrawsAre (ws.take i) ds ∧ ρ = [some (.int cell), some (.int salt), some (.lst (ws.map .int)), some (.own (ds.map .int)), some (.int l), v]) ⟨[], l0, none, ⟨by simp, by simp⟩, rfl⟩ ?_
    rintro i ρ hi ⟨ds, l, v, ⟨hd1, hd2⟩, rfl⟩
    have hwi := hw ws[i] (List.getElem_mem hi)
    have hl : ds.length = i := by rw [hd1, List.length_take]; omega
    have ix : atI (ws.map MV.int) (i : Int) = some (.int ws[i]) := by rw [atI_ge (by omega)]; simp [hi]
    have ds' : ∀ d : Int, DrawsAre (ws.take (i + 1)) (ds ++ [d.fmod ws[i]]) := by
      intro d
      refine ⟨by simp [hl, List.length_take]; omega, fun j h h' => ?_⟩
      have hj : j ≤ i := by rw [List.length_take] at h; omega
      rw [List.getElem_take]
      by_cases e : j = i
      · subst e
        rw [List.getElem_append_right (by omega)]
        simp [hl]
        exact ⟨fmod_ge' hwi.1, fmod_lt' hwi.1⟩
      · have := hd2 j (by rw [List.length_take]; omega) (by omega)
        rw [List.getElem_append_left (by omega)]
        rw [List.getElem_take] at this
        exact this
    have hsz : ds.length < sizeLine := by rw [sizeLine_eq]; omega
    by_cases hp : 0 < l
    · refine ⟨[some (.int cell), some (.int salt), some (.lst (ws.map .int)), some (.own (ds.map .int)), some (.int l), some (.int i)], [some (.int cell), some (.int salt), some (.lst (ws.map .int)), some (.own ((ds ++ [l.fmod ws[i]]).map .int)), some (.int (l.fdiv ws[i])), some (.int i)], ?_, .inl ?_, ⟨_, _, _, ds' l, rfl⟩⟩
      · simp
      · simp [b_ldraws_0, hp, isOwn, ix, Int.ne_of_gt hwi.1, hsz, hwi.2]
    · obtain ⟨m, hm⟩ := lmixed_ok cell i salt
      refine ⟨[some (.int cell), some (.int salt), some (.lst (ws.map .int)), some (.own (ds.map .int)), some (.int l), some (.int i)], [some (.int cell), some (.int salt), some (.lst (ws.map .int)), some (.own ((ds ++ [m.fmod ws[i]]).map .int)), some (.int l), some (.int i)], ?_, .inl ?_, ⟨_, _, _, ds' m, rfl⟩⟩
      · simp
      · simp [b_ldraws_0, hp, isOwn, ix, hm, Int.ne_of_gt hwi.1, hsz]
  have e0 : inR (ws.length : Int) = true := inR_of (by omega) (by omega)
  unfold f_ldraws
  by_cases hc : (1000000000000000000 : Int) ≤ (if cell < 0 then -cell else cell)
  · obtain ⟨ρ', h, ds, l, v, hd, rfl⟩ := key (if cell < 0 then -cell else cell)
    refine ⟨ds, by simpa using hd, mFn_ok ?_⟩
    · simp [m_ldraws, szOk_small, hc, e0, h]
  · obtain ⟨ρ', h, ds, l, v, hd, rfl⟩ := key 0
    refine ⟨ds, by simpa using hd, mFn_ok ?_⟩
    · simp [m_ldraws, szOk_small, hc, e0, h]
theorem draws_nil {ds : List Int} : DrawsAre [] ds ↔ ds = [] := by
  constructor
  · intro h; exact List.length_eq_zero_iff.mp h.1
  · rintro rfl; exact ⟨rfl, by simp⟩
theorem draws_cons {w : Int} {ws ds : List Int} : DrawsAre (w :: ws) ds ↔ ∃ d r, ds = d :: r ∧ (0 ≤ d ∧ d < w) ∧ DrawsAre ws r := by
  constructor
  · intro h
    match ds, h with
    | [], h => exact absurd h.1 (by simp)
    | d :: r, h =>
      refine ⟨d, r, rfl, h.2 0 (by simp) (by simp), by simpa using h.1, fun i h1 h2 => ?_⟩
      exact h.2 (i + 1) (by simpa using h1) (by simpa using h2)
  · rintro ⟨d, r, rfl, h1, h2⟩
    refine ⟨by simpa using h2.1, fun i a b => ?_⟩
    match i with
    | 0 => exact h1
    | i + 1 => exact h2.2 i (by simpa using a) (by simpa using b)
theorem lwhole_int (i : Int) : f_lwhole [.int i] = .ok (.bl true, []) := by
  refine mFn_ok ?_
  simp [m_lwhole, bIsi, MV.kd, kdOf, Kd.isa]
def most (n : Nat) (sg : Str) : Int := if sg = "tens" then 5 * 10 ^ (n - 1) - 1 else 10 ^ n - 1
theorem blsOf_rep : ∀ n : Nat, blsOf (List.replicate n (.bl true)) = some (List.replicate n true)
  | 0 => rfl
  | n + 1 => by
    rw [List.replicate_succ]
    simp only [blsOf, blsOf_rep n]
    rfl
theorem lbytes_ok (xs : List Nat) (hl : xs.length ≤ 100000) (hx : ∀ b ∈ xs, b < 256) : f_lbytes [.tup (xs.map fun d : Nat => MV.int d), .int xs.length] = .ok (.bl true, []) := by
  refine mFn_ok ?_
  have key : mLcO (mItV (mVar 0)) (.nm 2) (mYes) (mBv (mAndT (mTest (mFz (mCall0 f_lwhole (mCons (mVar 2) (mNil))))) (mTest (mChain fLe fLt (mC (.int 0)) (mVar 2) (mC (.int 256)))))) [2] [some (.tup (xs.map fun d : Nat => MV.int d)), some (.int xs.length), none] = .ok (.own (List.replicate xs.length (.bl true)), [some (.tup (xs.map fun d : Nat => MV.int d)), some (.int xs.length), none]) := by
    rw [← show (xs.map fun d : Nat => MV.int d).map (fun _ => MV.bl true) = List.replicate xs.length (.bl true) by rw [List.map_const', List.length_map]]
    refine mLcO_map (fun _ => .bl true) (by simp) (by simp [perAt]) ?_ (by rw [sizeLine_eq, List.length_map]; omega)
    intro z hz
    obtain ⟨d, hd, rfl⟩ := List.mem_map.mp hz
    have h1 := hx d hd
    have h2 : (d : Int) < 256 := by omega
    have h3 := lwhole_int d
    refine ⟨[some (.tup (xs.map fun d : Nat => MV.int d)), some (.int xs.length), some (.int d)], by simp [setT, wipeM], by simp [h2, h3], by simp [wipeM], by simp⟩
  simp [m_lbytes, bIsi, MV.kd, kdOf, Kd.isa, key, bAll, blsOf_rep]
theorem okD_row (xs : List Nat) : (xs.map fun d : Nat => MV.int d).all (okD 20) = true := by
  rw [List.all_map]
  exact List.all_eq_true.mpr fun d _ => okD_i
def fB (fr : Nat) (ws : List Str) (rs : List MV) (tab : Str → MV) : List (Str × MV) := [("rows", .own rs), ("tables", .own (ws.map tab)), ("worths", .own (ws.map MV.fnc)), ("free", .int fr)]
def Bo (fr : Nat) (ws : List Str) (rs : List MV) (tab : Str → MV) : MV := .obj "Builder" (fB fr ws rs tab)
section
variable {fr : Nat} {ws : List Str} {rs : List MV} {tab : Str → MV} {ρ : Env} {r x y z : Option MV}
@[simp] theorem Bo_held : (Bo fr ws rs tab).held = true := nr rfl
@[simp] theorem Bo_fold : MV.obj (Str.ofString "Builder") (fB fr ws rs tab) = Bo fr ws rs tab := nr rfl
@[simp] theorem lk_rows : (fB fr ws rs tab).lookup (Str.ofString "rows") = some (.own rs) := nr rfl
@[simp] theorem lk_tables : (fB fr ws rs tab).lookup (Str.ofString "tables") = some (.own (ws.map tab)) := nr rfl
@[simp] theorem lk_worths : (fB fr ws rs tab).lookup (Str.ofString "worths") = some (.own (ws.map MV.fnc)) := nr rfl
@[simp] theorem lk_free : (fB fr ws rs tab).lookup (Str.ofString "free") = some (.int fr) := nr rfl
@[simp] theorem lk_cell : (fB fr ws rs tab).lookup (Str.ofString "cell") = none := nr rfl
@[simp] theorem lk_put : (fB fr ws rs tab).lookup (Str.ofString "put") = none := nr rfl
@[simp] theorem lk_row : (fB fr ws rs tab).lookup (Str.ofString "row") = none := nr rfl
@[simp] theorem lk_look : (fB fr ws rs tab).lookup (Str.ofString "look") = none := nr rfl
@[simp] theorem lk_copied : (fB fr ws rs tab).lookup (Str.ofString "copied") = none := nr rfl
@[simp] theorem lk_looked : (fB fr ws rs tab).lookup (Str.ofString "looked") = none := nr rfl
@[simp] theorem lk_ended : (fB fr ws rs tab).lookup (Str.ofString "ended") = none := nr rfl
@[simp] theorem lk_program : (fB fr ws rs tab).lookup (Str.ofString "program") = none := nr rfl
@[simp] theorem lk_back_to : (fB fr ws rs tab).lookup (Str.ofString "back_to") = none := nr rfl
@[simp] theorem put_rows {zs : List MV} : putM (Str.ofString "rows") (.own zs) (fB fr ws rs tab) = fB fr ws zs tab := nr rfl
@[simp] theorem put_free {k : Nat} : putM (Str.ofString "free") (.int k) (fB fr ws rs tab) = fB k ws rs tab := nr rfl
@[simp] theorem put_free1 : putM (Str.ofString "free") (.int ((fr : Int) + 1)) (fB fr ws rs tab) = fB (fr + 1) ws rs tab := nr rfl
@[simp] theorem fB_len : (fB fr ws rs tab).length = 4 := nr rfl
def lkW (ws : List Str) (w : Str) : List Str := if w ∈ ws then ws else ws ++ [w]
def lkI (ws : List Str) (w : Str) : Nat := (lkW ws w).findIdx fun z => decide (z = w)
end
def w01 (p : Bool) : Nat := if p then 1 else 0
def wtab : List (Str × (Nat → Nat)) := [
  ("sign_below", fun b => w01 (decide (b % 16 = 11 ∨ b % 16 = 13))),
  ("five_on", fun b => w01 (decide (4 < b))),
  ("ten_or_none", fun b => 10 * w01 (decide (0 < b))),
  ("nine_less", fun b => if 9 < b ∧ b < 20 then 19 - b else b),
  ("ahead_of_last", fun b => b / 10),
  ("last_figure", fun b => b % 10),
  ("high_half", fun b => b / 16),
  ("low_half", fun b => b % 16),
  ("one_or_none", fun b => w01 (decide (0 < b))),
  ("half_up", fun b => b % 16 * 16),
  ("one_of_two", fun b => w01 (decide (b % 4 = 1 ∨ b % 4 = 2))),
  ("not_all", fun b => w01 (decide (b < 255))),
  ("none_or_all", fun b => 255 * w01 (decide (b = 0))),
  ("lacking", fun b => (9 + 10 * 26 - b) % 10),
  ("fill", fun b => 255 * (1 - b / 128)),
  ("top_two", fun b => b / 128),
  ("other_twos", fun b => 255 - b),
  ("ten_low", fun b => 10 * b % 256),
  ("ten_high", fun b => 10 * b / 256),
  ("six_on", fun b => w01 (decide (5 < b))),
  ("product_byte", fun b => b / 16 * (b % 16)),
  ("order_byte", fun b => if b % 4 = 0 then 1 else if b % 4 = 1 then 2 else if b % 4 = 2 then 1 else 0),
  ("one_of_none", fun b => w01 (decide (b = 0))),
  ("lowest_two", fun b => b % 2),
  ("all_or_none", fun b => 255 * w01 (decide (0 < b)))]
def worthV (w : Str) (b : Nat) : Nat := match wtab.lookup w with | some g => g b | none => 0
def tabW (w : Str) : MV := .tup ((List.range 256).map fun b => .int (worthV w b))
inductive Rw where
  | put (a v : Nat) | copy (a b : Nat) | look (a k : Nat) | add (a b : Nat) | addc (a b : Nat) | and_ (a b : Nat) | or_ (a b : Nat) | left (a : Nat) | right (a : Nat) | mark (v : Nat)
def enR : Rw → MV
  | .put a v => .tup [.str "put", .int a, .int v]
  | .copy a b => .tup [.str "copy", .int a, .int b]
  | .look a k => .tup [.str "look", .int a, .int k]
  | .add a b => .tup [.str "add", .int a, .int b]
  | .addc a b => .tup [.str "addc", .int a, .int b]
  | .and_ a b => .tup [.str "and", .int a, .int b]
  | .or_ a b => .tup [.str "or", .int a, .int b]
  | .left a => .tup [.str "left", .int a]
  | .right a => .tup [.str "right", .int a]
  | .mark v => .tup [.str "mark", .int v]
def cg (c : List Nat) (i : Nat) : Nat := c.getD i 0
def Cells (c : List Nat) : Prop := c.length = 256 ∧ ∀ i, cg c i < 256
def TabLt (tb : Nat → Nat → Nat) (nt : Nat) : Prop := ∀ k v, k < nt → v < 256 → tb k v < 256
theorem cg_set {c : List Nat} {a v i : Nat} : cg (c.set a v) i = if i = a ∧ a < c.length then v else cg c i := by
  unfold cg
  rw [List.getD_eq_getElem?_getD, List.getD_eq_getElem?_getD, List.getElem?_set]
  by_cases h : a = i
  · subst h
    by_cases h2 : a < c.length
    · simp [h2]
    · simp [h2, List.getElem?_eq_none (Nat.le_of_not_lt h2)]
  · have : ¬ (i = a) := fun e => h e.symm
    simp [h, this]
theorem Cells.set {c : List Nat} (h : Cells c) {a v : Nat} (hv : v < 256) : Cells (c.set a v) := by
  refine ⟨by rw [List.length_set]; exact h.1, fun i => ?_⟩
  rw [cg_set]
  split
  · exact hv
  · exact h.2 i
inductive Ab where
  | r (x : Rw) | lk (c : Nat) (w : Str)
def layA (s : List Str × List Rw) : Ab → List Str × List Rw
  | .r x => (s.1, s.2 ++ [x])
  | .lk c w => (lkW s.1 w, s.2 ++ [.look c (lkI s.1 w)])
def lays (as : List Ab) (s : List Str × List Rw) : List Str × List Rw := as.foldl layA s
def okAb : Ab → Bool
  | .r _ => true
  | .lk _ w => fnNames.contains w
def Gd (s : List Str × List Rw) (k : Nat) : Prop := s.1.Nodup ∧ (∀ z ∈ s.1, z ∈ fnNames) ∧ s.2.length + k < 16777216
theorem nodup_le : ∀ {l m : List Str}, l.Nodup → (∀ z ∈ l, z ∈ m) → l.length ≤ m.length
  | [], m, _, _ => Nat.zero_le _
  | a :: l, m, h, hs => by
    obtain ⟨h1, h2⟩ := List.nodup_cons.mp h
    have ha := hs a (by simp)
    have ih := @nodup_le l (m.erase a) h2 (fun z hz => by
      have ne : z ≠ a := fun e => h1 (by rw [← e]; exact hz)
      exact (List.mem_erase_of_ne ne).mpr (hs z (List.mem_cons_of_mem _ hz)))
    rw [List.length_erase_of_mem ha] at ih
    have := List.length_pos_of_mem ha
    simp; omega
theorem Gd.len {s : List Str × List Rw} {k : Nat} (h : Gd s k) : s.1.length < 100 := by
  have h1 : s.1.length ≤ fnNames.length := nodup_le h.1 fun z hz => h.2.1 z hz
  have h2 : fnNames.length < 100 := by decide +kernel
  omega
theorem Gd.less {s : List Str × List Rw} {k j : Nat} (h : Gd s k) (hj : j ≤ k) : Gd s j := ⟨h.1, h.2.1, by have := h.2.2; omega⟩
theorem layA_len (s : List Str × List Rw) (a : Ab) : (layA s a).2.length = s.2.length + 1 := by cases a <;> simp [layA]
theorem lkW_nodup {ws : List Str} {w : Str} (h : ws.Nodup) : (lkW ws w).Nodup := by
  unfold lkW
  split
  · exact h
  · rename_i hn
    rw [List.nodup_append]
    refine ⟨h, by simp, ?_⟩
    intro a ha b hb e
    rw [List.mem_singleton.mp hb] at e
    exact hn (e ▸ ha)
theorem Gd.step {s : List Str × List Rw} {k : Nat} (h : Gd s (k + 1)) {a : Ab} (ha : okAb a = true) : Gd (layA s a) k := by
  refine ⟨?_, ?_, by rw [layA_len]; have := h.2.2; omega⟩
  · cases a with
    | r x => exact h.1
    | lk c w => exact lkW_nodup h.1
  · cases a with
    | r x => exact h.2.1
    | lk c w =>
      intro z hz
      have hw : w ∈ fnNames := List.contains_iff_mem.mp ha
      simp only [layA] at hz
      unfold lkW at hz
      split at hz
      · exact h.2.1 z hz
      · rcases List.mem_append.mp hz with hz | hz
        · exact h.2.1 z hz
        · rw [List.mem_singleton.mp hz]; exact hw
theorem Gd.lays {k : Nat} : ∀ {as : List Ab} {s : List Str × List Rw}, Gd s (as.length + k) → as.all okAb = true → Gd (lays as s) k
  | [], s, h, _ => by simpa [Tm.lays] using h
  | a :: as, s, h, ha => by
    rw [List.all_cons, Bool.and_eq_true] at ha
    have h1 : Gd (layA s a) (as.length + k) := Gd.step (h.less (by simp; omega)) ha.1
    show Gd (Tm.lays as (layA s a)) k
    exact Gd.lays h1 ha.2
def bS (fr : Nat) (s : List Str × List Rw) : MV := Bo fr s.1 (s.2.map enR) tabW
section
variable {fr : Nat} {s : List Str × List Rw} {ρ : Env} {x y z : Option MV}
@[simp] theorem bS_held : (bS fr s).held = true := nr rfl
end
theorem nm (w : Str) (h : fnNames.contains w = true) : w ∈ fnNames := List.contains_iff_mem.mp h
def cells (fr many : Nat) : List Nat := (List.range many).map (fr + ·)
def w2 : List MV := [.str "left", .str "right"]
theorem cbE_b2 {f : MF} {x v : MV} {ys : List MV} {args : List BA} {ρ : Env} {r q y : Option MV} (h : x.held = true) (hf : fill args (r :: q :: some x :: ρ) = some ys) (hi : idxB args = []) (en : f (x :: ys) = .ok (v, [y])) : cbE f (.b 2 :: args) (r :: q :: some x :: ρ) = .ok (v, r :: q :: y :: ρ) := by
  rw [cbE_ap]
  have e : fill (.b 2 :: args) (r :: q :: some x :: ρ) = some (x :: ys) := by
    rw [fill_b, hf]
    simp [h]
  rw [e]
  show (match f (x :: ys) with | .ok (v, os) => _ | .exc e os => _ | .stuck => _) = _
  rw [en]
  rw [idxB_b, hi]
  rfl
section
variable {f : MF} {fr fr' : Nat} {s s' : List Str × List Rw} {a b c d v : MV}
theorem cd1 (en : f [bS fr s, a] = .ok (v, [some (bS fr' s')])) (r q : Option MV) (ρ : Env) : cbE f [.b 2, .v a] (r :: q :: some (bS fr s) :: ρ) = .ok (v, r :: q :: some (bS fr' s') :: ρ) := cbE_b2 rfl rfl rfl en
theorem cd2 (en : f [bS fr s, a, b] = .ok (v, [some (bS fr' s')])) (r q : Option MV) (ρ : Env) : cbE f [.b 2, .v a, .v b] (r :: q :: some (bS fr s) :: ρ) = .ok (v, r :: q :: some (bS fr' s') :: ρ) := cbE_b2 rfl rfl rfl en
theorem cd3 (en : f [bS fr s, a, b, c] = .ok (v, [some (bS fr' s')])) (r q : Option MV) (ρ : Env) : cbE f [.b 2, .v a, .v b, .v c] (r :: q :: some (bS fr s) :: ρ) = .ok (v, r :: q :: some (bS fr' s') :: ρ) := cbE_b2 rfl rfl rfl en
theorem cd4 (en : f [bS fr s, a, b, c, d] = .ok (v, [some (bS fr' s')])) (r q : Option MV) (ρ : Env) : cbE f [.b 2, .v a, .v b, .v c, .v d] (r :: q :: some (bS fr s) :: ρ) = .ok (v, r :: q :: some (bS fr' s') :: ρ) := cbE_b2 rfl rfl rfl en
end
structure Bs (L : List Str) : Prop where
  ah : ("ahead_of_last" : Str) ∈ L
  la : ("last_figure" : Str) ∈ L
  ni : ("nine_less" : Str) ∈ L
  hi : ("high_half" : Str) ∈ L
  lo : ("low_half" : Str) ∈ L
  up : ("half_up" : Str) ∈ L
  te : ("ten_or_none" : Str) ∈ L
  fi : ("five_on" : Str) ∈ L
  on : ("one_or_none" : Str) ∈ L
  be : ("sign_below" : Str) ∈ L
  tw : ("one_of_two" : Str) ∈ L
theorem Gd.go {s : List Str × List Rw} {N : Nat} {as : List Ab} (h : Gd s N) (ok : as.all okAb = true) (k : Nat) (hl : as.length + k ≤ N) : Gd (Tm.lays as s) k := Gd.lays (h.less hl) ok
structure TwW (L : List Str) : Prop where
  al : ("all_or_none" : Str) ∈ L
  no : ("none_or_all" : Str) ∈ L
  ot : ("other_twos" : Str) ∈ L
  th : ("ten_high" : Str) ∈ L
  tl : ("ten_low" : Str) ∈ L
  fi : ("fill" : Str) ∈ L
  na : ("not_all" : Str) ∈ L
  on : ("one_or_none" : Str) ∈ L
structure Ls (L : List Str) : Prop where
  ah : ("ahead_of_last" : Str) ∈ L
  la : ("last_figure" : Str) ∈ L
  ni : ("nine_less" : Str) ∈ L
  hi : ("high_half" : Str) ∈ L
  lo : ("low_half" : Str) ∈ L
  te : ("ten_or_none" : Str) ∈ L
  fi : ("five_on" : Str) ∈ L
  be : ("sign_below" : Str) ∈ L
theorem bls_map {α : Type} (f : α → Bool) : ∀ l : List α, blsOf (l.map fun p => .bl (f p)) = some (l.map f)
  | [] => rfl
  | p :: l => by
    have := bls_map f l
    simp [blsOf, this]
theorem ball_map {α : Type} (f : α → Bool) (l : List α) : bAll [.lst (l.map fun p => .bl (f p))] = some (.bl (l.all f)) := by
  show (blsOf _).map _ = _
  rw [bls_map]
  simp
def okN (N nt : Nat) : Rw → Bool
  | .put a v => decide (a < N) && decide (v < 256)
  | .look a k => decide (a < N) && decide (k < nt)
  | .copy a b => decide (a < N) && decide (b < N)
  | .add a b => decide (a < N) && decide (b < N)
  | .addc a b => decide (a < N) && decide (b < N)
  | .and_ a b => decide (a < N) && decide (b < N)
  | .or_ a b => decide (a < N) && decide (b < N)
  | .left a => decide (a < N)
  | .right a => decide (a < N)
  | .mark v => decide (v < 2)
def CellsN (N : Nat) (c : List Nat) : Prop := c.length = N ∧ ∀ i, cg c i < 256
theorem CellsN.set {N : Nat} {c : List Nat} (h : CellsN N c) {a v : Nat} (hv : v < 256) : CellsN N (c.set a v) := by
  refine ⟨by rw [List.length_set]; exact h.1, fun i => ?_⟩
  rw [cg_set]
  split
  · exact hv
  · exact h.2 i
def CR (c : List Nat) (m : Nat) (p : List Nat × Nat) (a : Nat) : Prop := Cells p.1 ∧ p.2 = m ∧ (∀ i, i < 252 → cg p.1 i = cg c i) ∧ cg p.1 252 = a
structure DrP (N : Nat) where
  tb : Nat → Nat → Nat
  nt : Nat
  rs : List Rw
  c : List Nat
  m : Nat
  h16 : nt ≤ 16
  tl : TabLt tb nt
  ok : rs.all (okN N nt) = true
  h48 : rs.length ≤ 48
  cn : CellsN N c
  m2 : m < 2
theorem str_ext {a b : Str} (h : a.cps.toList = b.cps.toList) : a = b := by
  cases a; cases b
  simp only at h
  congr 1
  exact Array.toList_inj.mp h
def nd (m : Nat) : Nat := (Nat.toDigits 10 m).length
theorem fIn_one (c : Nat) (z : Str) : fIn (.str ⟨#[c]⟩) (.str z) = some (.bl (decide (c ∈ z.cps.toList))) := by
  have h := PySem.StrLaws.found_iff z ⟨#[c]⟩
  have e : (!(Builtin.Str.occurrences z ⟨#[c]⟩ 0 z.length 1).isEmpty) = decide (c ∈ z.cps.toList) := by
    rw [Bool.eq_iff_iff, h, decide_eq_true_eq, List.mem_iff_getElem?]
    exact ⟨fun ⟨i, hi⟩ => ⟨i, (PySem.StrLaws.subAt_one z c i).mp hi⟩, fun ⟨i, hi⟩ => ⟨i, (PySem.StrLaws.subAt_one z c i).mpr hi⟩⟩
  show (some (!(Builtin.Str.occurrences z ⟨#[c]⟩ 0 z.length 1).isEmpty)).map MV.bl = _
  rw [e]; rfl
theorem split_sp {l : Str} (hz : l.length ≤ 100000) (b : Str) (hb : (b.length == 0) = false) : smSplit l [.str b] = some (.lst ((Txt.split l b).map MV.str)) := if_pos ⟨hb, by rw [sizeLine_eq]; omega⟩
section
variable {g : MG} {b : MS} {x v : MV} {xs : List MV} {ρ ρ1 ρ2 : Env} {e : MX}
theorem loop_c_nx (hg : g x ρ = some ρ1) (hb : b ρ1 = .ok (.nx, ρ2)) : mLoop g b (x :: xs) ρ = mLoop g b xs ρ2 := by
  conv => lhs; unfold mLoop
  rw [hg]; simp only [hb, bind_ok]
theorem loop_c_rt (hg : g x ρ = some ρ1) (hb : b ρ1 = .ok (.rt v, ρ2)) : mLoop g b (x :: xs) ρ = .ok (.rt v, ρ2) := by
  unfold mLoop; rw [hg]; simp only [hb, bind_ok]
end
inductive Rd where
  | bad (j : Nat)
  | got (rs : List (Str × List Int))
theorem txt_join (z : Str) (ss : List Str) : Txt.join z ss = Str.join z ss := by
  show Builtin.Str.glued z ss = _
  rw [StrLaws.glued_eq_join]
theorem join_len (z a : Str) (ss : List Str) : (Txt.join z (a :: ss)).length = ((a :: ss).map (·.length)).sum + ss.length * z.length := by
  rw [txt_join, PyProof.Rows.len_join_cons]
theorem join_ok {z : Str} {ss : List Str} (h : (ss.map (·.length)).sum + ss.length * z.length ≤ 16777216) : smJoin z [.lst (ss.map MV.str)] = some (.str (Txt.join z ss)) := by
  show (strsOf (ss.map MV.str)).bind (joinM z) = _
  rw [strsOf_map]
  exact if_pos (decide_eq_true h)
theorem sum_le {n : Nat} : ∀ {ss : List Str}, (∀ s ∈ ss, s.length ≤ n) → (ss.map (·.length)).sum ≤ ss.length * n
  | [], _ => by simp
  | s :: ss, h => by
    have ih := sum_le (ss := ss) fun x hx => h x (List.mem_cons_of_mem _ hx)
    have := h s (List.mem_cons_self ..)
    rw [List.map_cons, List.sum_cons, List.length_cons, Nat.succ_mul]
    omega
theorem join_le {n : Nat} (z : Str) {ss : List Str} (h : ∀ s ∈ ss, s.length ≤ n) : (Txt.join z ss).length ≤ ss.length * (n + z.length) := by
  cases ss with
  | nil => show (Str.join z []).length ≤ _; exact Nat.zero_le _
  | cons a l =>
    rw [join_len, Nat.mul_add]
    have := sum_le h
    have h2 : l.length * z.length ≤ (a :: l).length * z.length := Nat.mul_le_mul_right _ (by simp)
    omega
theorem join_ok2 {n : Nat} (z : Str) {ss : List Str} (h : ∀ s ∈ ss, s.length ≤ n) (hn : n ≤ 1000) (hz : z.length ≤ 1) (hl : ss.length ≤ 10000) : smJoin z [.lst (ss.map MV.str)] = some (.str (Txt.join z ss)) := by
  refine join_ok ?_
  have h1 := sum_le h
  have h2 : ss.length * n ≤ 10000 * 1000 := Nat.mul_le_mul hl hn
  have h3 : ss.length * z.length ≤ 10000 * 1 := Nat.mul_le_mul hl hz
  omega
theorem mLcO_it {α : Type} {it : MI} {e : ME} {v : Nat} {ρ : Env} {l : List α} (item y : α → MV) (hi : it ρ = .ok (l.map item, ρ)) (hv : ρ[v]? = some none) (he : ∀ a ∈ l, e (ρ.set v (some (item a))) = .ok (y a, ρ.set v (some (item a)))) (hz : l.length ≤ sizeLine) :
    mLcO it (.nm v) mYes e [v] ρ = .ok (.own (l.map y), ρ) := by
  have := mLcO_nm (it := it) (e := e) (v := v) (ρ := ρ) (xs := l.map item) (fun z => match e (ρ.set v (some z)) with | .ok (r, _) => r | _ => .non) hi hv (fun x hx => by
    obtain ⟨a, ha, rfl⟩ := List.mem_map.mp hx
    rw [he a ha]) (by rw [List.length_map]; exact hz)
  rw [this, List.map_map]
  congr 3
  refine List.map_congr_left fun a ha => ?_
  show (match e (ρ.set v (some (item a))) with | .ok (r, _) => r | _ => .non) = y a
  rw [he a ha]
theorem cut_inj {c : Nat} : ∀ {p q x y : List Nat}, c ∉ p → c ∉ q → p ++ c :: x = q ++ c :: y → p = q ∧ x = y
  | [], [], x, y, _, _, h => ⟨rfl, by simpa using h⟩
  | [], b :: q, x, y, _, hq, h => by
    simp at h
    exact absurd (h.1 ▸ List.mem_cons_self ..) hq
  | a :: p, [], x, y, hp, _, h => by
    simp at h
    exact absurd (h.1 ▸ List.mem_cons_self ..) hp
  | a :: p, b :: q, x, y, hp, hq, h => by
    simp at h
    obtain ⟨rfl, h⟩ := h
    obtain ⟨rfl, e⟩ := cut_inj (fun m => hp (List.mem_cons_of_mem _ m)) (fun m => hq (List.mem_cons_of_mem _ m)) h
    exact ⟨rfl, e⟩
theorem join_inj {c : Nat} : ∀ {ps qs : List Str}, ps ≠ [] → qs ≠ [] → (∀ p ∈ ps, c ∉ p.cps.toList) → (∀ q ∈ qs, c ∉ q.cps.toList) → Str.join ⟨#[c]⟩ ps = Str.join ⟨#[c]⟩ qs → ps = qs
  | [], _, h, _, _, _, _ => absurd rfl h
  | _, [], _, h, _, _, _ => absurd rfl h
  | [a], [b], _, _, _, _, h => by rw [show a = b from h]
  | [a], b :: d :: l, _, _, h1, _, h => by
    have h : a = b ++ ⟨#[c]⟩ ++ Str.join ⟨#[c]⟩ (d :: l) := h
    have := h1 a (List.mem_singleton.mpr rfl)
    rw [h, tl_app, tl_app] at this
    simp at this
  | a :: d :: l, [b], _, _, _, h2, h => by
    have h : a ++ ⟨#[c]⟩ ++ Str.join ⟨#[c]⟩ (d :: l) = b := h
    have := h2 b (List.mem_singleton.mpr rfl)
    rw [← h, tl_app, tl_app] at this
    simp at this
  | a :: d :: l, b :: e :: m, _, _, h1, h2, h => by
    have h : a ++ ⟨#[c]⟩ ++ Str.join ⟨#[c]⟩ (d :: l) = b ++ ⟨#[c]⟩ ++ Str.join ⟨#[c]⟩ (e :: m) := h
    have hl := congrArg (fun z : Str => z.cps.toList) h
    simp only [tl_app] at hl
    have hl : a.cps.toList ++ c :: (Str.join ⟨#[c]⟩ (d :: l)).cps.toList = b.cps.toList ++ c :: (Str.join ⟨#[c]⟩ (e :: m)).cps.toList := by simpa using hl
    obtain ⟨e1, e2⟩ := cut_inj (h1 a (List.mem_cons_self ..)) (h2 b (List.mem_cons_self ..)) hl
    rw [str_ext e1, join_inj (ps := d :: l) (qs := e :: m) (by simp) (by simp) (fun p hp => h1 p (List.mem_cons_of_mem _ hp)) (fun p hp => h2 p (List.mem_cons_of_mem _ hp)) (str_ext e2)]
theorem split_join {c : Nat} {ps : List Str} (h0 : ps ≠ []) (h : ∀ p ∈ ps, c ∉ p.cps.toList) : Txt.split (Txt.join ⟨#[c]⟩ ps) ⟨#[c]⟩ = ps := by
  have hj := StrLaws.join_split (Txt.join ⟨#[c]⟩ ps) ⟨#[c]⟩
  have hf := StrLaws.split_free (Txt.join ⟨#[c]⟩ ps) c
  have hp := PyProof.Rows.split_pos (Txt.join ⟨#[c]⟩ ps) ⟨#[c]⟩
  generalize Txt.split (Txt.join ⟨#[c]⟩ ps) ⟨#[c]⟩ = qs at *
  rw [txt_join] at hj
  exact (join_inj h0 (fun e => by rw [e] at hp; simp at hp) h hf hj.symm).symm
theorem spc_eq : Str.ofString " " = ⟨#[32]⟩ := rfl
theorem signs_all {K : Str} {p : Nat → Bool} (hK : ∀ c, fIn (.str ⟨#[c]⟩) (.str K) = some (.bl (p c))) (w : Str) (v : Nat) (ρ : Env) {a : ME} (ha : a ρ = .ok (.str w, ρ)) (hv : ρ[v]? = some none) (hz : w.length ≤ 100000) :
    mLcO (mItV a) (.nm v) mYes (mOp fIn (mVar v) (mC (.str K))) [v] ρ = .ok (.own (w.cps.toList.map fun c => .bl (p c)), ρ) := by
  have hl : w.cps.toList.length = w.length := Array.length_toList
  have hlt : v < ρ.length := lt_get hv
  refine mLcO_it (fun c : Nat => .str ⟨#[c]⟩) (fun c => .bl (p c)) (by unfold mItV; rw [ha]; rfl) hv (fun c hc => ?_) (by rw [hl, sizeLine_eq]; omega)
  have e1 : mVar v (ρ.set v (some (.str ⟨#[c]⟩))) = .ok (.str ⟨#[c]⟩, ρ.set v (some (.str ⟨#[c]⟩))) := by
    unfold mVar
    rw [List.getElem?_set_self hlt]
  unfold mOp
  rw [e1]
  show (match fIn (.str ⟨#[c]⟩) (.str K) with | some z => Res.ok (z, _) | none => .stuck) = _
  rw [hK]
def hexC (c : Nat) : Bool := (decide (48 ≤ c) && decide (c ≤ 57)) || (decide (65 ≤ c) && decide (c ≤ 70))
def hexV (c : Nat) : Nat := if c ≤ 57 then c - 48 else c - 55
def hcO (d : Nat) : Nat := if d < 10 then 48 + d else 55 + d
theorem hex_list : (Str.ofString "0123456789ABCDEF").cps.toList = [48, 49, 50, 51, 52, 53, 54, 55, 56, 57, 65, 66, 67, 68, 69, 70] := by decide +kernel
theorem fIn_hex (c : Nat) : fIn (.str ⟨#[c]⟩) (.str (Str.ofString "0123456789ABCDEF")) = some (.bl (hexC c)) := by
  have e : decide (c ∈ (Str.ofString "0123456789ABCDEF").cps.toList) = hexC c := by
    rw [hex_list]
    unfold hexC
    rw [Bool.eq_iff_iff]
    simp
    omega
  rw [fIn_one, e]
theorem hexC_of {c : Nat} (h : hexC c = true) : ∃ d, d < 16 ∧ c = hcO d ∧ hexV c = d := by
  unfold hexC at h
  simp at h
  rcases h with h | h
  · exact ⟨c - 48, by omega, by unfold hcO; rw [if_pos (by omega)]; omega, by unfold hexV; rw [if_pos (by omega)]⟩
  · exact ⟨c - 55, by omega, by unfold hcO; rw [if_neg (by omega)]; omega, by unfold hexV; rw [if_neg (by omega)]⟩
theorem hexC_hc {d : Nat} (h : d < 16) : hexC (hcO d) = true ∧ hexV (hcO d) = d := by
  unfold hcO hexC hexV
  split
  · exact ⟨by simp; omega, by rw [if_pos (by omega)]; omega⟩
  · exact ⟨by simp; omega, by rw [if_neg (by omega)]; omega⟩
theorem occ_hex : ∀ d, d < 16 → Builtin.Str.occurrences (Str.ofString "0123456789ABCDEF") ⟨#[hcO d]⟩ 0 (Str.ofString "0123456789ABCDEF").length 1 = [d] := by decide +kernel
theorem index_hex {d : Nat} (h : d < 16) : smIndex (Str.ofString "0123456789ABCDEF") [.str ⟨#[hcO d]⟩] = some (.int d) := by
  show (match Builtin.Str.occurrences (Str.ofString "0123456789ABCDEF") ⟨#[hcO d]⟩ 0 (Str.ofString "0123456789ABCDEF").length 1 with | i :: _ => some (MV.int (i : Nat)) | [] => none) = _
  rw [occ_hex d h]
theorem at_hex : ∀ d, d < 16 → (Str.ofString "0123456789ABCDEF").cps.toList[d]? = some (hcO d) := by decide +kernel
theorem ix_hex {d : Nat} (h : d < 16) : fIx (.str (Str.ofString "0123456789ABCDEF")) (.int d) = some (.str ⟨#[hcO d]⟩) := by
  show (if szOk (Str.ofString "0123456789ABCDEF").length then (atI (Str.ofString "0123456789ABCDEF").cps.toList (d : Int)).map (fun c => MV.str ⟨#[c]⟩) else none) = _
  rw [if_pos (szOk_small (by decide)), atI_ge (by omega), Int.toNat_natCast, at_hex d h]
  rfl
def byteT (w : Str) : Option Nat := match w.cps.toList with
  | [a, b] => if hexC a && hexC b then some (16 * hexV a + hexV b) else none
  | _ => none
theorem byteT_no {w : Str} (h : ¬ w.length = 2) : byteT w = none := by
  have hl : w.cps.toList.length = w.length := Array.length_toList
  unfold byteT
  split
  · rename_i a b e
    rw [e] at hl
    simp at hl
    omega
  · rfl
theorem two_signs {w : Str} (h : w.length = 2) : ∃ a b, w = ⟨#[a, b]⟩ := by
  have hl : w.cps.toList.length = w.length := Array.length_toList
  rw [h] at hl
  match hc : w.cps.toList, hl with
  | [a, b], _ => exact ⟨a, b, str_ext hc⟩
theorem pbyte_told_eq {w : Str} (hz : w.length ≤ 100000) : f_pbyte_told [.str w] = match byteT w with | some n => .ok (.int n, []) | none => .exc ⟨"NoText", []⟩ [] := by
  have sz : szOk w.length = true := szOk_small (by omega)
  by_cases h2 : w.length = 2
  · obtain ⟨a, b, rfl⟩ := two_signs h2
    have fa := signs_all fIn_hex ⟨#[a, b]⟩ 1 [some (.str ⟨#[a, b]⟩), none] (a := mVar 0) rfl rfl hz
    have ba := ball_map hexC [a, b]
    have sz2 : szOk (⟨#[a, b]⟩ : Str).length = true := sz
    have l2 : (⟨#[a, b]⟩ : Str).length = 2 := rfl
    have eb : byteT ⟨#[a, b]⟩ = if hexC a && hexC b then some (16 * hexV a + hexV b) else none := rfl
    rw [eb]
    cases hc : (hexC a && hexC b) with
    | true =>
      rw [Bool.and_eq_true] at hc
      obtain ⟨d, hd, rfl, ev⟩ := hexC_of hc.1
      obtain ⟨d2, hd2, rfl, ev2⟩ := hexC_of hc.2
      rw [ev, ev2]
      have i1 := index_hex hd
      have i2 := index_hex hd2
      have g0 : fIx (.str ⟨#[hcO d, hcO d2]⟩) (.int 0) = some (.str ⟨#[hcO d]⟩) := rfl
      have g1 : fIx (.str ⟨#[hcO d, hcO d2]⟩) (.int 1) = some (.str ⟨#[hcO d2]⟩) := rfl
      have ml : mulOk 16 (d : Int) = true := mulOk_l (by decide) (by decide)
      have ba : bAll [.lst [.bl (hexC (hcO d)), .bl (hexC (hcO d2))]] = some (.bl true) := by rw [hc.1, hc.2]; rfl
      have fa : mLcO (mItV (mVar 0)) (.nm 1) mYes (mOp fIn (mVar 1) (mC (.str (Str.ofString "0123456789ABCDEF")))) [1] [some (.str ⟨#[hcO d, hcO d2]⟩), none] = .ok (.own [.bl (hexC (hcO d)), .bl (hexC (hcO d2))], [some (.str ⟨#[hcO d, hcO d2]⟩), none]) := fa
      have bl : bLen [.str ⟨#[hcO d, hcO d2]⟩] = some (.int 2) := rfl
      generalize (⟨#[hcO d, hcO d2]⟩ : Str) = W at *
      generalize (⟨#[hcO d]⟩ : Str) = W1 at *
      generalize (⟨#[hcO d2]⟩ : Str) = W2 at *
      exact mFn_ok ⟨[some (.str W), none], by simp [m_pbyte_told, -bLen_s, -fIx_s, bl, fa, ba, g0, g1, smE_ok i1, smE_ok i2, ml]⟩
    | false =>
      have ba : bAll [.lst [.bl (hexC a), .bl (hexC b)]] = some (.bl false) := by
        cases e1 : hexC a <;> cases e2 : hexC b <;> first | rfl | (rw [e1, e2] at hc; cases hc)
      have fa : mLcO (mItV (mVar 0)) (.nm 1) mYes (mOp fIn (mVar 1) (mC (.str (Str.ofString "0123456789ABCDEF")))) [1] [some (.str ⟨#[a, b]⟩), none] = .ok (.own [.bl (hexC a), .bl (hexC b)], [some (.str ⟨#[a, b]⟩), none]) := fa
      have bl : bLen [.str ⟨#[a, b]⟩] = some (.int 2) := rfl
      generalize (⟨#[a, b]⟩ : Str) = W at *
      exact mFn_exc ⟨[some (.str W), none], by simp [m_pbyte_told, -bLen_s, bl, fa, ba]⟩
  · rw [byteT_no h2]
    have h3 : ¬ (w.length : Int) = 2 := by omega
    exact mFn_exc ⟨[some (.str w), none], by simp [m_pbyte_told, sz, h3]⟩
def hxB (b : Nat) : Str := ⟨#[hcO (b / 16)]⟩ ++ ⟨#[hcO (b % 16)]⟩
def hexT (row : List Nat) : Str := Txt.join (Str.ofString " ") (row.map hxB)
theorem hxB_list (b : Nat) : (hxB b).cps.toList = [hcO (b / 16), hcO (b % 16)] := by unfold hxB; rw [tl_app]; rfl
theorem hxB_len (b : Nat) : (hxB b).length = 2 := by unfold hxB; rw [len_app]; rfl
theorem byteT_hx {b : Nat} (h : b < 256) : byteT (hxB b) = some b := by
  unfold byteT
  rw [hxB_list]
  obtain ⟨h1, h2⟩ := @hexC_hc (b / 16) (by omega)
  obtain ⟨h3, h4⟩ := @hexC_hc (b % 16) (by omega)
  simp only [h1, h2, h3, h4, Bool.and_self, if_true]
  congr 1
  omega
theorem hcO_ge (d : Nat) : 48 ≤ hcO d := by unfold hcO; split <;> omega
theorem hxB_free (b : Nat) : 32 ∉ (hxB b).cps.toList := by
  rw [hxB_list]
  intro h
  have := hcO_ge (b / 16)
  have := hcO_ge (b % 16)
  simp at h
  omega
theorem hexT_len (row : List Nat) : (hexT row).length ≤ row.length * 3 := by
  have := join_le (Str.ofString " ") (n := 2) (ss := row.map hxB) (fun s hs => by
    obtain ⟨b, _, rfl⟩ := List.mem_map.mp hs
    exact Nat.le_of_eq (hxB_len b))
  have e : (Str.ofString " ").length = 1 := rfl
  rw [e, List.length_map] at this
  exact this
theorem hexT_join {row : List Nat} (hl : row.length ≤ 10000) : smJoin (Str.ofString " ") [.lst (row.map fun b => .str (hxB b))] = some (.str (hexT row)) := by
  have := join_ok2 (Str.ofString " ") (n := 2) (ss := row.map hxB) (fun s hs => by
    obtain ⟨b, _, rfl⟩ := List.mem_map.mp hs
    exact Nat.le_of_eq (hxB_len b)) (by decide) (by decide) (by rw [List.length_map]; exact hl)
  rw [List.map_map] at this
  exact this
theorem half_ix {b : Nat} (h : b < 256) : fDiv (.int b) (.int 16) = some (.int (b / 16 : Nat)) ∧ fMod (.int b) (.int 16) = some (.int (b % 16 : Nat)) := by
  constructor
  · show (if divOk 16 then some (MV.int ((b : Int).fdiv 16)) else none) = _
    rw [if_pos (show divOk 16 = true from rfl), show (b : Int).fdiv 16 = ((b / 16 : Nat) : Int) from nat_fdiv b 16]
  · show (if decide ((16 : Int) ≠ 0) then some (MV.int ((b : Int).fmod 16)) else none) = _
    rw [if_pos (by decide), show (b : Int).fmod 16 = ((b % 16 : Nat) : Int) from nat_fmod b 16]
theorem phexed_eq {row : List Nat} (h : ∀ b ∈ row, b < 256) (hl : row.length ≤ 10000) : f_phexed [.tup (row.map fun d : Nat => .int d)] = .ok (.str (hexT row), []) := by
  refine mFn_ok ?_
  have lc := mLcO_it (it := mItV (mVar 0)) (e := mOp fAdd (mOp fIx (mC (.str "0123456789ABCDEF")) (mOp fDiv (mVar 1) (mC (.int 16)))) (mOp fIx (mC (.str "0123456789ABCDEF")) (mOp fMod (mVar 1) (mC (.int 16))))) (v := 1) (ρ := [some (.tup (row.map fun d : Nat => .int d)), none]) (l := row) (fun d : Nat => .int d) (fun b => .str (hxB b)) (by simp) rfl (by
    intro b hb
    have hb := h b hb
    obtain ⟨f1, f2⟩ := half_ix hb
    have x1 := ix_hex (d := b / 16) (by omega)
    have x2 := ix_hex (d := b % 16) (by omega)
    have l1 : (⟨#[hcO (b / 16)]⟩ : Str).length = 1 := rfl
    have l2 : (⟨#[hcO (b % 16)]⟩ : Str).length = 1 := rfl
    have s2 : szOk (1 + 1) = true := szOk_small (by decide)
    unfold hxB
    generalize ((b / 16 : Nat) : Int) = P at *
    generalize ((b % 16 : Nat) : Int) = Q at *
    generalize (⟨#[hcO (b / 16)]⟩ : Str) = W1 at *
    generalize (⟨#[hcO (b % 16)]⟩ : Str) = W2 at *
    generalize row.map (fun d : Nat => MV.int d) = RM at *
    simp [-fDiv_ii, -fMod_ii, -fIx_s, f1, f2, x1, x2, l1, l2, s2]) (by rw [sizeLine_eq]; omega)
  have tj := hexT_join hl
  generalize (row.map fun b => MV.str (hxB b)) = HB at *
  generalize row.map (fun d : Nat => MV.int d) = RM at *
  show ∃ ρ, m_phexed [some (.tup RM), none] = _
  simp [m_phexed, lc, smE_ok tj]
theorem hexT_split {row : List Nat} (h0 : row ≠ []) : Txt.split (hexT row) (Str.ofString " ") = row.map hxB := by
  unfold hexT
  rw [spc_eq]
  exact split_join (by simpa using h0) fun p hp => by
    obtain ⟨b, _, rfl⟩ := List.mem_map.mp hp
    exact hxB_free b
theorem hexT_ne {row : List Nat} (h0 : row ≠ []) : ¬ hexT row = Str.ofString "" := by
  intro e
  have h := hexT_split h0
  rw [e] at h
  have e0 : Txt.split (Str.ofString "") (Str.ofString " ") = [Str.ofString ""] := rfl
  rw [e0] at h
  cases row with
  | nil => exact h0 rfl
  | cons b r =>
    rw [List.map_cons] at h
    have h1 : hxB b = Str.ofString "" := by injection h with h _; exact h.symm
    have := hxB_len b
    rw [h1] at this
    cases this
theorem punhexed_hex {row : List Nat} (h : ∀ b ∈ row, b < 256) (hl : row.length ≤ 10000) : f_punhexed [.str (hexT row)] = .ok (.tup (row.map fun d : Nat => .int d), []) := by
  by_cases h0 : row = []
  · subst h0
    have e : hexT [] = Str.ofString "" := rfl
    rw [e]
    exact mFn_ok ⟨[some (.str (Str.ofString "")), none], by simp [m_punhexed, szOk_small]⟩
  · have hs := split_sp (l := hexT row) (by have := hexT_len row; omega) (Str.ofString " ") rfl
    rw [hexT_split h0, List.map_map] at hs
    have hs : smSplit (hexT row) [.str (Str.ofString " ")] = some (.lst (row.map fun b => .str (hxB b))) := hs
    have ne := hexT_ne h0
    generalize hexT row = T at *
    have lc := mLcO_it (it := mItV (mSm smSplit (mVar 0) (mCons (mC (.str " ")) mNil))) (e := mFz (mCall0 f_pbyte_told (mCons (mVar 1) mNil))) (v := 1) (ρ := [some (.str T), none]) (l := row) (fun b => .str (hxB b)) (fun d : Nat => .int d) (by simp [smE_ok hs]) rfl (by
      intro b hb
      have := pbyte_told_eq (w := hxB b) (by rw [hxB_len]; decide)
      rw [byteT_hx (h b hb)] at this
      have this : f_pbyte_told [.str (hxB b)] = .ok (.int b, []) := this
      simp [this]) (by rw [sizeLine_eq]; omega)
    have lc := mLcX_of (e' := mFz (mCall f_pbyte_told (mCons (mVar 1) mNil))) (fun ρ q h => mFz_of (fun _ _ z => mCall_of0 z) h) lc
    generalize row.map (fun d : Nat => MV.int d) = RM at *
    exact mFn_ok ⟨[some (.str T), none], by simp [m_punhexed, ne, lc]⟩
def rowTs : List Str → Option (List Nat)
  | [] => some []
  | w :: ws => match byteT w with
    | none => none
    | some n => match rowTs ws with
      | none => none
      | some ns => some (n :: ns)
def rowT (T : Str) : Option (List Nat) := if T = Str.ofString "" then some [] else rowTs (Txt.split T (Str.ofString " "))
theorem seqX_bytes : ∀ ws : List Str, seqX (ws.map fun w => match byteT w with | some n => .inl (MV.int n) | none => .inr (⟨"NoText", []⟩ : MX)) = match rowTs ws with | some ns => .inl (ns.map fun n : Nat => MV.int n) | none => .inr ⟨"NoText", []⟩
  | [] => rfl
  | w :: ws => by
    rw [List.map_cons]
    unfold rowTs
    cases byteT w with
    | none => rfl
    | some n =>
      simp only [seqX]
      rw [seqX_bytes ws]
      cases rowTs ws with
      | none => rfl
      | some ns => rfl
theorem split_count {T : Str} {k : Nat} (hT : T.length ≤ k) : (Txt.split T (Str.ofString " ")).length ≤ k + 2 := by
  have := PyProof.Rows.split_le T (Str.ofString " ")
  omega
theorem byteT_lt {w : Str} {n : Nat} (h : byteT w = some n) : n < 256 := by
  unfold byteT at h
  split at h
  · split at h
    · rename_i hh
      cases h
      simp only [Bool.and_eq_true] at hh
      obtain ⟨d, h1, rfl, e1⟩ := hexC_of hh.1
      obtain ⟨d2, h2, rfl, e2⟩ := hexC_of hh.2
      omega
    · cases h
  · cases h
theorem rowTs_lt : ∀ {ws : List Str} {ns : List Nat}, rowTs ws = some ns → ∀ n ∈ ns, n < 256
  | [], ns, h => by cases h; intro n hn; cases hn
  | w :: ws, ns, h => by
    unfold rowTs at h
    cases e : byteT w with
    | none => rw [e] at h; cases h
    | some b =>
      rw [e] at h
      simp only at h
      cases e2 : rowTs ws with
      | none => rw [e2] at h; cases h
      | some r =>
        rw [e2] at h
        cases h
        intro n hn
        rcases List.mem_cons.mp hn with rfl | hn
        · exact byteT_lt e
        · exact rowTs_lt e2 n hn
theorem rowTs_len : ∀ {ws : List Str} {ns : List Nat}, rowTs ws = some ns → ns.length = ws.length
  | [], ns, h => by cases h; rfl
  | w :: ws, ns, h => by
    unfold rowTs at h
    cases e : byteT w with
    | none => rw [e] at h; cases h
    | some b =>
      rw [e] at h
      simp only at h
      cases e2 : rowTs ws with
      | none => rw [e2] at h; cases h
      | some r =>
        rw [e2] at h
        cases h
        rw [List.length_cons, List.length_cons, rowTs_len e2]
theorem punhexed_eq {T : Str} (hz : T.length ≤ 10000) : f_punhexed [.str T] = match rowT T with | some ns => .ok (.tup (ns.map fun n : Nat => MV.int n), []) | none => .exc ⟨"NoText", []⟩ [] := by
  unfold rowT
  by_cases h0 : T = Str.ofString ""
  · rw [if_pos h0]
    subst h0
    exact mFn_ok ⟨[some (.str (Str.ofString "")), none], by simp [m_punhexed, szOk_small]⟩
  · rw [if_neg h0]
    have hs := split_sp (l := T) (by omega) (Str.ofString " ") rfl
    have hc := split_count hz
    have hsh : ∀ a ∈ Txt.split T (Str.ofString " "), a.length ≤ 100000 := fun a h => Nat.le_trans (PyProof.Rows.part_short h) (by omega)
    have lc := mLcX_it (it := mItV (mSm smSplit (mVar 0) (mCons (mC (.str " ")) mNil))) (e := mFz (mCall f_pbyte_told (mCons (mVar 1) mNil))) (v := 1) (ρ := [some (.str T), none]) (l := Txt.split T (Str.ofString " ")) MV.str
      (fun w => match byteT w with | some n => .inl (MV.int n) | none => .inr (⟨"NoText", []⟩ : MX)) (by simp [smE_ok hs]) rfl (by
      intro w hw
      have := pbyte_told_eq (w := w) (hsh w hw)
      cases e : byteT w with
      | none => rw [e] at this; simp [this]
      | some n => rw [e] at this; simp [this]) (by rw [sizeLine_eq]; omega)
    rw [seqX_bytes] at lc
    generalize Txt.split T (Str.ofString " ") = L at *
    cases e : rowTs L with
    | none =>
      rw [e] at lc
      exact mFn_exc ⟨[some (.str T), none], by simp [m_punhexed, h0, lc]⟩
    | some ns =>
      rw [e] at lc
      simp only at lc
      show f_punhexed [.str T] = .ok (.tup (ns.map fun n : Nat => MV.int n), [])
      generalize ns.map (fun n : Nat => MV.int n) = RM at *
      exact mFn_ok ⟨[some (.str T), none], by simp [m_punhexed, h0, lc]⟩
theorem lseen2_eq {T : Str} (hz : T.length ≤ 10000) : f_lseen2 [.str T] = .ok ((match rowT T with | some ns => .tup [.str "told", .tup (ns.map fun n : Nat => MV.int n)] | none => .tup [.str "refused", .non]), []) := by
  have pu := punhexed_eq hz
  cases e : rowT T with
  | none =>
    rw [e] at pu
    have pu : f_punhexed [.str T] = .exc ⟨"NoText", []⟩ [] := pu
    have lk2 : List.lookup (Str.ofString "NoText") [(Str.ofString "NoText", false)] = some false := by decide +kernel
    have lk3 : List.lookup (Str.ofString "NoText") [(Str.ofString "NoText", true)] = some true := by decide +kernel
    exact mFn_ok ⟨[some (.str T), some (.tup [.str "refused", .non]), none], by simp [m_lseen2, mTry, b_lseen2_0, lk2, lk3, pu, szOk_small]⟩
  | some ns =>
    rw [e] at pu
    have pu : f_punhexed [.str T] = .ok (.tup (ns.map fun n : Nat => MV.int n), []) := pu
    show f_lseen2 [.str T] = .ok (.tup [.str "told", .tup (ns.map fun n : Nat => MV.int n)], [])
    generalize ns.map (fun n : Nat => MV.int n) = RM at *
    exact mFn_ok ⟨[some (.str T), some (.tup [.str "told", .tup RM]), none], by simp [m_lseen2, mTry, b_lseen2_0, pu, szOk_small]⟩
theorem lrowT_step {T w : Str} {acc : List MV} {x3 : Option MV} (hz : w.length ≤ 100000) (hl : acc.length < 100000) :
    b_lrow_0 [some (.str T), some (.own acc), some (.str w), none] = match byteT w with | some n => .ok (.nx, [some (.str T), some (.own (acc ++ [.int n])), some (.str w), none]) | none => .ok (.rt .non, [some (.str T), some (.own acc), some (.str w), none]) := by
  have sz : szOk w.length = true := szOk_small (by omega)
  have so : acc.length < sizeLine := by rw [sizeLine_eq]; omega
  by_cases h2 : w.length = 2
  · obtain ⟨a, b, rfl⟩ := two_signs h2
    have fa := signs_all fIn_hex ⟨#[a, b]⟩ 3 [some (.str T), some (.own acc), some (.str ⟨#[a, b]⟩), none] (a := mVar 2) rfl rfl hz
    have eb : byteT ⟨#[a, b]⟩ = if hexC a && hexC b then some (16 * hexV a + hexV b) else none := rfl
    rw [eb]
    cases hc : (hexC a && hexC b) with
    | true =>
      rw [Bool.and_eq_true] at hc
      obtain ⟨d, hd, rfl, ev⟩ := hexC_of hc.1
      obtain ⟨d2, hd2, rfl, ev2⟩ := hexC_of hc.2
      rw [ev, ev2]
      have i1 := index_hex hd
      have i2 := index_hex hd2
      have g0 : fIx (.str ⟨#[hcO d, hcO d2]⟩) (.int 0) = some (.str ⟨#[hcO d]⟩) := rfl
      have g1 : fIx (.str ⟨#[hcO d, hcO d2]⟩) (.int 1) = some (.str ⟨#[hcO d2]⟩) := rfl
      have ml : mulOk 16 (d : Int) = true := mulOk_l (by decide) (by decide)
      have ba : bAll [.lst [.bl (hexC (hcO d)), .bl (hexC (hcO d2))]] = some (.bl true) := by rw [hc.1, hc.2]; rfl
      have fa : mLcO (mItV (mVar 2)) (.nm 3) mYes (mOp fIn (mVar 3) (mC (.str (Str.ofString "0123456789ABCDEF")))) [3] [some (.str T), some (.own acc), some (.str ⟨#[hcO d, hcO d2]⟩), none] = .ok (.own [.bl (hexC (hcO d)), .bl (hexC (hcO d2))], [some (.str T), some (.own acc), some (.str ⟨#[hcO d, hcO d2]⟩), none]) := fa
      have bl : bLen [.str ⟨#[hcO d, hcO d2]⟩] = some (.int 2) := rfl
      show b_lrow_0 [some (.str T), some (.own acc), some (.str ⟨#[hcO d, hcO d2]⟩), none] = .ok (.nx, [some (.str T), some (.own (acc ++ [.int ((16 * d + d2 : Nat) : Int)])), some (.str ⟨#[hcO d, hcO d2]⟩), none])
      have en : ((16 * d + d2 : Nat) : Int) = 16 * (d : Int) + d2 := by omega
      rw [en]
      generalize (⟨#[hcO d, hcO d2]⟩ : Str) = W at *
      generalize (⟨#[hcO d]⟩ : Str) = W1 at *
      generalize (⟨#[hcO d2]⟩ : Str) = W2 at *
      simp [b_lrow_0, -bLen_s, -fIx_s, bl, fa, ba, g0, g1, smE_ok i1, smE_ok i2, ml, so]
    | false =>
      have ba : bAll [.lst [.bl (hexC a), .bl (hexC b)]] = some (.bl false) := by
        cases e1 : hexC a <;> cases e2 : hexC b <;> first | rfl | (rw [e1, e2] at hc; cases hc)
      have fa : mLcO (mItV (mVar 2)) (.nm 3) mYes (mOp fIn (mVar 3) (mC (.str (Str.ofString "0123456789ABCDEF")))) [3] [some (.str T), some (.own acc), some (.str ⟨#[a, b]⟩), none] = .ok (.own [.bl (hexC a), .bl (hexC b)], [some (.str T), some (.own acc), some (.str ⟨#[a, b]⟩), none]) := fa
      have bl : bLen [.str ⟨#[a, b]⟩] = some (.int 2) := rfl
      show b_lrow_0 [some (.str T), some (.own acc), some (.str ⟨#[a, b]⟩), none] = .ok (.rt .non, [some (.str T), some (.own acc), some (.str ⟨#[a, b]⟩), none])
      generalize (⟨#[a, b]⟩ : Str) = W at *
      simp [b_lrow_0, -bLen_s, bl, fa, ba]
  · rw [byteT_no h2]
    have h3 : ¬ (w.length : Int) = 2 := by omega
    simp [b_lrow_0, sz, h3]
theorem lrowT_loop (T : Str) : ∀ (ws : List Str) (acc : List Nat) (x2 : Option MV), (∀ w ∈ ws, w.length ≤ 100000) → acc.length + ws.length < 100000 →
    match rowTs ws with
    | none => ∃ ρ, mLoop (gSet 2) b_lrow_0 (ws.map .str) [some (.str T), some (.own (acc.map fun n : Nat => MV.int n)), x2, none] = .ok (.rt .non, ρ)
    | some ns => ∃ y2, mLoop (gSet 2) b_lrow_0 (ws.map .str) [some (.str T), some (.own (acc.map fun n : Nat => MV.int n)), x2, none] = .ok (.nx, [some (.str T), some (.own ((acc ++ ns).map fun n : Nat => MV.int n)), y2, none])
  | [], acc, x2, _, _ => ⟨x2, by rw [List.append_nil]; rfl⟩
  | w :: ws, acc, x2, hl, hk => by
    have st := @lrowT_step T w (acc.map fun n : Nat => MV.int n) none (hl w (List.mem_cons_self ..)) (by rw [List.length_map]; rw [List.length_cons] at hk; omega)
    have hg : gSet 2 (.str w) [some (.str T), some (.own (acc.map fun n : Nat => MV.int n)), x2, none] = some [some (.str T), some (.own (acc.map fun n : Nat => MV.int n)), some (.str w), none] := rfl
    show (match rowTs (w :: ws) with | none => _ | some ns => _)
    unfold rowTs
    rw [List.map_cons]
    cases e : byteT w with
    | none =>
      rw [e] at st
      exact ⟨_, loop_c_rt hg st⟩
    | some n =>
      rw [e] at st
      have ih := lrowT_loop T ws (acc ++ [n]) (some (.str w)) (fun z hz => hl z (List.mem_cons_of_mem _ hz)) (by rw [List.length_append, List.length_singleton]; rw [List.length_cons] at hk; omega)
      have st : b_lrow_0 [some (.str T), some (.own (acc.map fun n : Nat => MV.int n)), some (.str w), none] = .ok (.nx, [some (.str T), some (.own ((acc ++ [n]).map fun n : Nat => MV.int n)), some (.str w), none]) := by rw [st, List.map_append]; rfl
      simp only
      rw [loop_c_nx hg st]
      cases e2 : rowTs ws with
      | none =>
        rw [e2] at ih
        exact ih
      | some ns =>
        rw [e2] at ih
        obtain ⟨y2, ih⟩ := ih
        refine ⟨y2, ?_⟩
        rw [ih, List.append_assoc]; rfl
theorem lrowT_eq {T : Str} (hz : T.length ≤ 10000) : f_lrow [.str T] = .ok ((match rowT T with | some ns => .tup (ns.map fun n : Nat => MV.int n) | none => .non), []) := by
  unfold rowT
  by_cases h0 : T = Str.ofString ""
  · rw [if_pos h0]
    subst h0
    exact mFn_ok ⟨_, by simp [m_lrow, szOk_small]; rfl⟩
  · rw [if_neg h0]
    have hs := split_sp (l := T) (by omega) (Str.ofString " ") rfl
    have hc := split_count hz
    have hsh : ∀ a ∈ Txt.split T (Str.ofString " "), a.length ≤ 100000 := fun a h => Nat.le_trans (PyProof.Rows.part_short h) (by omega)
    have lp := lrowT_loop T (Txt.split T (Str.ofString " ")) [] none hsh (by simp; omega)
    rw [List.map_nil] at lp
    generalize Txt.split T (Str.ofString " ") = L at *
    cases e : rowTs L with
    | none =>
      rw [e] at lp
      obtain ⟨ρ, lp⟩ := lp
      exact mFn_ok ⟨ρ, by simp [m_lrow, h0, smE_ok hs, lp, szOk_small]⟩
    | some ns =>
      rw [e] at lp
      obtain ⟨y2, lp⟩ := lp
      rw [List.nil_append] at lp
      have sz : szOk ns.length = true := szOk_small (by rw [rowTs_len e]; omega)
      show f_lrow [.str T] = .ok (.tup (ns.map fun n : Nat => MV.int n), [])
      have ll : (ns.map fun n : Nat => MV.int n).length = ns.length := List.length_map ..
      generalize ns.map (fun n : Nat => MV.int n) = RM at *
      exact mFn_ok ⟨[some (.str T), some (.lst RM), y2, none], by simp [m_lrow, h0, smE_ok hs, lp, szOk_small]⟩
theorem lbyte_text_eq {b : Nat} (hb : b < 256) : f_lbyte_text [.int b] = .ok (.str (hxB b), []) := by
  obtain ⟨f1, f2⟩ := half_ix hb
  have x1 := ix_hex (d := b / 16) (by omega)
  have x2 := ix_hex (d := b % 16) (by omega)
  have l1 : (⟨#[hcO (b / 16)]⟩ : Str).length = 1 := rfl
  have l2 : (⟨#[hcO (b % 16)]⟩ : Str).length = 1 := rfl
  have s2 : szOk (1 + 1) = true := szOk_small (by decide)
  unfold hxB
  generalize ((b / 16 : Nat) : Int) = P at *
  generalize ((b % 16 : Nat) : Int) = Q at *
  generalize (⟨#[hcO (b / 16)]⟩ : Str) = W1 at *
  generalize (⟨#[hcO (b % 16)]⟩ : Str) = W2 at *
  exact mFn_ok ⟨[some (.int b)], by simp [m_lbyte_text, -fDiv_ii, -fMod_ii, -fIx_s, f1, f2, x1, x2, l1, l2, s2]⟩
theorem ltext3_eq {row : List Nat} (h : ∀ b ∈ row, b < 256) (hl : row.length ≤ 10000) : f_ltext3 [.tup (row.map fun d : Nat => .int d)] = .ok (.str (hexT row), []) := by
  refine mFn_ok ?_
  have lc := mLcO_it (it := mItV (mVar 0)) (e := mFz (mCall0 f_lbyte_text (mCons (mVar 1) mNil))) (v := 1) (ρ := [some (.tup (row.map fun d : Nat => .int d)), none]) (l := row) (fun d : Nat => .int d) (fun b => .str (hxB b)) (by simp) rfl (by
    intro b hb
    have e := lbyte_text_eq (h b hb)
    generalize row.map (fun d : Nat => MV.int d) = RM at *
    simp [e]) (by rw [sizeLine_eq]; omega)
  have tj := hexT_join hl
  generalize (row.map fun b => MV.str (hxB b)) = HB at *
  generalize row.map (fun d : Nat => MV.int d) = RM at *
  show ∃ ρ, m_ltext3 [some (.tup RM), none] = _
  simp [m_ltext3, lc, smE_ok tj]
theorem lspoilt2_ok {T : Str} (hT : T.length ≤ 5000) {a b c d : Int} (hc : 0 ≤ c) :
    ∃ z : Str, z.length ≤ T.length * 2 + 1 ∧ f_lspoilt2 [.str T, .lst [.int a, .int b, .int c, .int d]] = .ok (.str z, []) := by
  obtain ⟨n, hn⟩ : ∃ n, T.length = n := ⟨_, rfl⟩
  have tz : szOk n = true := szOk_small (by omega)
  have cut := fun lo hi => @len_cut T lo hi
  obtain ⟨p, hp⟩ : ∃ p : Int, a.fmod ((n : Int) + 1) = p := ⟨_, rfl⟩
  have n1 : ¬ ((n : Int) + 1 = 0) := by omega
  obtain ⟨S, hS⟩ : ∃ S : Str, Str.ofString " !\"#$&'()*+,-./0123456789:;<=>?@ABCDEFGHIJKLMNOPQRSTUVWXYZ[\\]^_`abcdefghijklmnopqrstuvwxyz{|}~" = S := ⟨_, rfl⟩
  obtain ⟨S2, hS2⟩ : ∃ S : Str, Str.ofString " 0123456789ABCDEFabcdef" = S := ⟨_, rfl⟩
  have sl : S.cps.toList.length = S.length ∧ 1 ≤ S.length ∧ S.length ≤ 1000 := by rw [← hS]; decide +kernel
  have sl2 : S2.cps.toList.length = 23 ∧ S2.length = 23 := by rw [← hS2]; decide +kernel
  have nS : ¬ (S.length = 0) := by omega
  obtain ⟨x1, hx1, ex1⟩ := at_some (xs := S.cps.toList) (i := c.fmod (S.length : Int)) (fmod_ge' (by omega)) (by rw [sl.1]; exact fmod_lt' (by omega))
  obtain ⟨x2, hx2, ex2⟩ := at_some (xs := S2.cps.toList) (i := c.fmod 23) (fmod_ge' (by omega)) (by rw [sl2.1]; exact fmod_lt' (by omega))
  have zS : szOk S.length = true := szOk_small (by omega)
  have zS2 : szOk 23 = true := szOk_small (by omega)
  obtain ⟨C, hC, l1⟩ : ∃ C : Str, (if b < 3 then (⟨#[x2]⟩ : Str) else ⟨#[x1]⟩) = C ∧ C.length = 1 := by
    refine ⟨_, rfl, ?_⟩
    split <;> rfl
  rw [hn] at cut hT
  have a1 : ∀ lo hi : Option Int, szOk ((cutS T lo hi).length + 1) = true := fun lo hi => szOk_small (by have := cut lo hi; omega)
  have a2 : ∀ lo hi lo2 hi2 : Option Int, szOk ((cutS T lo hi).length + 1 + (cutS T lo2 hi2).length) = true := fun lo hi lo2 hi2 => szOk_small (by have := cut lo hi; have := cut lo2 hi2; omega)
  have a3 : ∀ lo hi lo2 hi2 : Option Int, szOk ((cutS T lo hi).length + (cutS T lo2 hi2).length) = true := fun lo hi lo2 hi2 => szOk_small (by have := cut lo hi; have := cut lo2 hi2; omega)
  have pre : ∀ K : MS, mSeq (mAsg (mOp fMod (mOp fIx (mVar 1) (mC (.int 0))) (mOp fAdd (mBlt bLen (mCons (mVar 0) (mNil))) (mC (.int 1)))) (gSet 2)) (mSeq (mAsg (mC (.str (Str.ofString " !\"#$&'()*+,-./0123456789:;<=>?@ABCDEFGHIJKLMNOPQRSTUVWXYZ[\\]^_`abcdefghijklmnopqrstuvwxyz{|}~"))) (gSet 3)) (mSeq (mAsg (mOp fIx (mVar 3) (mOp fMod (mOp fIx (mVar 1) (mC (.int 2))) (mBlt bLen (mCons (mVar 3) (mNil))))) (gSet 4)) (mSeq (mIfS (mTest (mOp fLt (mOp fIx (mVar 1) (mC (.int 1))) (mC (.int 3)))) (mAsg (mOp fIx (mC (.str (Str.ofString " 0123456789ABCDEFabcdef"))) (mOp fMod (mOp fIx (mVar 1) (mC (.int 2))) (mC (.int 23)))) (gSet 4)) (mPass)) K)))
      [some (.str T), some (.lst [.int a, .int b, .int c, .int d]), none, none, none] = K [some (.str T), some (.lst [.int a, .int b, .int c, .int d]), some (.int p), some (.str S), some (.str C)] := by
    intro K
    rw [hS, hS2]
    by_cases h : b < 3
    · rw [if_pos h] at hC
      simp [hn, tz, n1, hp, h, nS, zS, ex1, sl2.2, zS2, ex2, hC]
    · rw [if_neg h] at hC
      simp [hn, tz, n1, hp, h, nS, zS, ex1, hC]
  by_cases d0 : d = 0
  · subst d0
    refine ⟨cutS T none (some p) ++ C ++ cutS T (some p) none, by have := cut none (some p); have := cut (some p) none; rw [len_app, len_app, l1]; omega, mFn_ok ⟨[some (.str T), some (.lst [.int a, .int b, .int c, .int 0]), some (.int p), some (.str S), some (.str C)], ?_⟩⟩
    show m_lspoilt2 [some (.str T), some (.lst [.int a, .int b, .int c, .int 0]), none, none, none] = _
    unfold m_lspoilt2
    rw [pre]
    simp [hn, tz, l1, a1, a2, a3, len_app]
  · by_cases d1 : d = 1
    · subst d1
      refine ⟨cutS T none (some p) ++ C ++ cutS T (some (p + 1)) none, by have := cut none (some p); have := cut (some (p + 1)) none; rw [len_app, len_app, l1]; omega, mFn_ok ⟨[some (.str T), some (.lst [.int a, .int b, .int c, .int 1]), some (.int p), some (.str S), some (.str C)], ?_⟩⟩
      show m_lspoilt2 [some (.str T), some (.lst [.int a, .int b, .int c, .int 1]), none, none, none] = _
      unfold m_lspoilt2
      rw [pre]
      simp [hn, tz, l1, a1, a2, a3, len_app]
    · by_cases d2 : d = 2
      · subst d2
        refine ⟨cutS T none (some p) ++ cutS T (some (p + 1)) none, by have := cut none (some p); have := cut (some (p + 1)) none; rw [len_app]; omega, mFn_ok ⟨[some (.str T), some (.lst [.int a, .int b, .int c, .int 2]), some (.int p), some (.str S), some (.str C)], ?_⟩⟩
        show m_lspoilt2 [some (.str T), some (.lst [.int a, .int b, .int c, .int 2]), none, none, none] = _
        unfold m_lspoilt2
        rw [pre]
        simp [hn, tz, l1, a1, a2, a3, len_app]
      · refine ⟨cutS T (some p) none ++ cutS T none (some p), by have := cut none (some p); have := cut (some p) none; rw [len_app]; omega, mFn_ok ⟨[some (.str T), some (.lst [.int a, .int b, .int c, .int d]), some (.int p), some (.str S), some (.str C)], ?_⟩⟩
        show m_lspoilt2 [some (.str T), some (.lst [.int a, .int b, .int c, .int d]), none, none, none] = _
        unfold m_lspoilt2
        rw [pre]
        simp [hn, tz, l1, d0, d1, d2, a1, a2, a3, len_app]
theorem bytes_okD {ns : List Nat} : okD 20 (.tup (ns.map fun n : Nat => MV.int n)) = true := by
  show (ns.map fun n : Nat => MV.int n).all (okD 19) = true
  rw [List.all_eq_true]
  intro x hx
  obtain ⟨n, _, rfl⟩ := List.mem_map.mp hx
  rfl
theorem turn09 {x0 x1 x2 x3 x4 x6 x7 x8 : Option MV} {T : Str} (hz : T.length ≤ 10000) :
    ∃ y7 y8, b_law16_0 [x0, x1, x2, x3, x4, some (.str T), x6, x7, x8] = .ok (.nx, [x0, x1, x2, x3, x4, some (.str T), x6, y7, y8]) := by
  have ls := lseen2_eq hz
  have lr := lrowT_eq hz
  cases e : rowT T with
  | none =>
    rw [e] at ls lr
    have ls : f_lseen2 [.str T] = .ok (.tup [.str "refused", .non], []) := ls
    have lr : f_lrow [.str T] = .ok (.non, []) := lr
    have ne : fNe (.tup [.str "refused", .non]) (.tup [.str "refused", .non]) = some (.bl false) := fNe_tt (by decide +kernel)
    exact ⟨some (.tup [.str "refused", .non]), some .non, by simp [b_law16_0, -fNe_tt, ls, lr, ne, szOk_small]⟩
  | some ns =>
    rw [e] at ls lr
    have ls : f_lseen2 [.str T] = .ok (.tup [.str "told", .tup (ns.map fun n : Nat => MV.int n)], []) := ls
    have lr : f_lrow [.str T] = .ok (.tup (ns.map fun n : Nat => MV.int n), []) := lr
    have ne : fNe (.tup [.str "told", .tup (ns.map fun n : Nat => MV.int n)]) (.tup [.str "told", .tup (ns.map fun n : Nat => MV.int n)]) = some (.bl false) := fNe_tt (by
      show (okD 20 (.str "told") && (okD 20 (.tup (ns.map fun n : Nat => MV.int n)) && true)) = true
      rw [bytes_okD]; decide +kernel)
    have hl : ns.length ≤ 20000 := by
      unfold rowT at e
      split at e
      · cases e; exact Nat.zero_le _
      · rw [rowTs_len e]; have := split_count hz; omega
    have lt : ∀ n ∈ ns, n < 256 := by
      unfold rowT at e
      split at e
      · cases e; intro n hn; cases hn
      · exact rowTs_lt e
    have lb := lbytes_ok ns (by omega) lt
    have sz : szOk ns.length = true := szOk_small (by omega)
    have bl : bLen [.tup (ns.map fun n : Nat => MV.int n)] = some (.int ns.length) := by
      rw [bLen_t, List.length_map]
    generalize (ns.map fun n : Nat => MV.int n) = RM at *
    exact ⟨some (.tup [.str "told", .tup RM]), some (.tup RM), by simp [b_law16_0, -fNe_tt, -bLen_t, ls, lr, ne, bl, lb, szOk_small]⟩
theorem draws_rep09 : ∀ {n : Nat} {ds : List Int}, DrawsAre (List.replicate n 256) ds → ∃ c : List Nat, ds = c.map (fun d : Nat => (d : Int)) ∧ c.length = n ∧ ∀ d ∈ c, d < 256
  | 0, ds, h => by
    rw [List.replicate_zero, draws_nil] at h
    exact ⟨[], h, rfl, fun _ z => by cases z⟩
  | n + 1, ds, h => by
    rw [List.replicate_succ, draws_cons] at h
    obtain ⟨d, r, rfl, hd, hr⟩ := h
    obtain ⟨c, rfl, hl, hc⟩ := draws_rep09 hr
    obtain ⟨k, rfl⟩ := Int.eq_ofNat_of_zero_le hd.1
    refine ⟨k :: c, rfl, by rw [List.length_cons, hl], fun x hx => ?_⟩
    rcases List.mem_cons.mp hx with rfl | hx
    · have := hd.2; omega
    · exact hc x hx
theorem cutM_mid09 {xs : List MV} {a b : Int} (ha : 0 ≤ a) (hb : 0 ≤ b) (h : b ≤ xs.length) (hab : a ≤ b) : cutM xs (some a) (some b) = (xs.drop a.toNat).take (b.toNat - a.toNat) := by
  simp only [cutM, HT.sIx, show ¬ a < 0 by omega, show ¬ b < 0 by omega, if_false]
  rw [Nat.min_eq_left (by omega), Nat.min_eq_left (by omega)]
theorem cut_mid09 {a b c d e : MV} {D : List MV} {k : Nat} (hD : D.length = 16) (hk : k ≤ 16) : cutM (a :: b :: c :: d :: e :: D) (some 5) (some (5 + (k : Int))) = D.take k := by
  rw [cutM_mid09 (by decide) (by omega) (by simp [hD]; omega) (by omega)]
  have e1 : ((5 : Int)).toNat = 5 := rfl
  have e2 : (5 + (k : Int)).toNat - (5 : Int).toNat = k := by omega
  rw [e2, e1]; rfl
theorem body09 (ns : List Int) (i : Nat) (hi : i < 6) (a2 a3 a4 a5 a6 a7 a8 : Option MV) :
    ∃ b2 b3 b4 b5 b6 b7 b8, b_law16_1 [some (.scr ns), some (.int i), a2, a3, a4, a5, a6, a7, a8] = .ok (.nx, [some (.scr ns), some (.int i), b2, b3, b4, b5, b6, b7, b8]) := by
  obtain ⟨c0, hc0⟩ := lcell_ok ns i
  obtain ⟨W, hW⟩ : ∃ W : List Int, W = [17, 1997, 6, 94, 4] ++ List.replicate 16 256 := ⟨_, rfl⟩
  obtain ⟨ds, hd, hds⟩ := ldraws_ok c0 (51 + i) W (by rw [hW]; decide) (by rw [hW]; decide)
  rw [hW, List.cons_append, List.cons_append, List.cons_append, List.cons_append, List.cons_append, List.nil_append] at hd
  simp only [draws_cons] at hd
  obtain ⟨d0, _, rfl, q0, d1, _, rfl, q1, d2, _, rfl, q2, d3, _, rfl, q3, d4, D, rfl, q4, hD⟩ := hd
  obtain ⟨R, rfl, lR, bR⟩ := draws_rep09 hD
  obtain ⟨k, rfl⟩ := Int.eq_ofNat_of_zero_le q0.1
  have k16 : k ≤ 16 := by have := q0.2; have e : Int.ofNat k = (k : Int) := rfl; omega
  have wl : fAdd (.lst [.int 17, .int 1997, .int 6, .int 94, .int 4]) (.lst (List.replicate 16 (.int 256))) = some (.lst (W.map .int)) := by rw [hW]; rfl
  have fm : fMul (.lst [.int 256]) (.int 16) = some (.lst (List.replicate 16 (.int 256))) := fMul_1 (k := 16) (by decide)
  have cm := @cut_mid09 (.int (k : Int)) (.int d1) (.int d2) (.int d3) (.int d4) ((R.map fun d : Nat => (d : Int)).map .int) k (by rw [List.length_map, List.length_map, lR]) k16
  rw [← List.map_take, ← List.map_take] at cm
  have c15 : cutM (MV.int (k : Int) :: .int d1 :: .int d2 :: .int d3 :: .int d4 :: (R.map fun d : Nat => (d : Int)).map .int) (some 1) (some 5) = [.int d1, .int d2, .int d3, .int d4] := by
    rw [cutM_mid09 (by decide) (by decide) (by simp [lR]) (by decide)]
    rfl
  obtain ⟨m, hm, mb⟩ : ∃ m : Nat, atI [MV.int 1, .int 40] (if (i : Int) = 3 then 1 else 0) = some (.int m) ∧ (m = 1 ∨ m = 40) := by
    split
    · exact ⟨40, rfl, .inr rfl⟩
    · exact ⟨1, rfl, .inl rfl⟩
  obtain ⟨row, hrow, rl, rb⟩ : ∃ row : List Nat, fMul (.tup ((R.take k).map fun d : Nat => MV.int d)) (.int m) = some (.tup (row.map fun d : Nat => MV.int d)) ∧ row.length ≤ 640 ∧ ∀ b ∈ row, b < 256 := by
    have tl : (R.take k).length ≤ 16 := by rw [List.length_take]; omega
    have tb : ∀ b ∈ R.take k, b < 256 := fun b hb => bR b (List.mem_of_mem_take hb)
    rcases mb with rfl | rfl
    · exact ⟨R.take k, fMul_t1, by omega, tb⟩
    · refine ⟨(List.replicate 40 (R.take k)).flatten, ?_, ?_, fun b hb => ?_⟩
      · rw [fMul_tk (by decide) (by rw [List.length_map]; omega), List.map_flatten, List.map_replicate]; rfl
      · rw [List.length_flatten, List.map_replicate, List.sum_replicate_nat]; omega
      · obtain ⟨l, h1, h2⟩ := List.mem_flatten.mp hb
        rw [(List.mem_replicate.mp h1).2] at h2
        exact tb b h2
  have tx := ltext3_eq rb (by omega)
  have ph := phexed_eq rb (by omega)
  have pu := punhexed_hex rb (by omega)
  have hl := hexT_len row
  obtain ⟨z, lz, ez⟩ := @lspoilt2_ok (hexT row) (by omega) d1 d2 d3 d4 q3.1
  obtain ⟨y7, y8, t1⟩ := @turn09 (some (.scr ns)) (some (.int i)) (some (.lst ((((k : Int) :: d1 :: d2 :: d3 :: d4 :: R.map fun d : Nat => (d : Int)).map .int)))) (some (.tup (row.map fun d : Nat => MV.int d))) (some (.str (hexT row))) (some (.int 0)) a7 a8 z (by omega)
  obtain ⟨z7, z8, t2⟩ := @turn09 (some (.scr ns)) (some (.int i)) (some (.lst ((((k : Int) :: d1 :: d2 :: d3 :: d4 :: R.map fun d : Nat => (d : Int)).map .int)))) (some (.tup (row.map fun d : Nat => MV.int d))) (some (.str (hexT row))) (some (.int 1)) y7 y8 z (by omega)
  have lp : mLoop (gSet 6) b_law16_0 [.int 0, .int 1] [some (.scr ns), some (.int i), some (.lst ((((k : Int) :: d1 :: d2 :: d3 :: d4 :: R.map fun d : Nat => (d : Int)).map .int))), some (.tup (row.map fun d : Nat => MV.int d)), some (.str (hexT row)), some (.str z), a6, a7, a8] = .ok (.nx, [some (.scr ns), some (.int i), some (.lst ((((k : Int) :: d1 :: d2 :: d3 :: d4 :: R.map fun d : Nat => (d : Int)).map .int))), some (.tup (row.map fun d : Nat => MV.int d)), some (.str (hexT row)), some (.str z), some (.int 1), z7, z8]) := by
    rw [loop_c_nx rfl t1, loop_c_nx rfl t2]
    rfl
  have rg : rngM 0 1 2 = [.int 0, .int 1] := rfl
  have i2 : inR 2 = true := inR_of (by decide) (by decide)
  have ne1 : fNe (.str (hexT row)) (.str (hexT row)) = some (.bl false) := by simp
  have ne2 : fNe (.tup (row.map fun d : Nat => MV.int d)) (.tup (row.map fun d : Nat => MV.int d)) = some (.bl false) := fNe_tt (okD_row row)
  clear t1 t2 tx
  have tx := ltext3_eq rb (by omega)
  rw [List.map_cons, List.map_cons, List.map_cons, List.map_cons, List.map_cons] at lp hds
  have x0 : atI (MV.int (k : Int) :: .int d1 :: .int d2 :: .int d3 :: .int d4 :: (R.map fun d : Nat => (d : Int)).map .int) 0 = some (.int k) := by rw [atI_ge (by decide)]; rfl
  have hds : f_ldraws [.int c0, .int (51 + i), .lst (W.map .int)] = .ok (.own (.int (k : Int) :: .int d1 :: .int d2 :: .int d3 :: .int d4 :: (R.map fun d : Nat => (d : Int)).map .int), []) := hds
  have lp : mLoop (gSet 6) b_law16_0 [.int 0, .int 1] [some (.scr ns), some (.int i), some (.lst (.int (k : Int) :: .int d1 :: .int d2 :: .int d3 :: .int d4 :: (R.map fun d : Nat => (d : Int)).map .int)), some (.tup (row.map fun d : Nat => MV.int d)), some (.str (hexT row)), some (.str z), a6, a7, a8] = .ok (.nx, [some (.scr ns), some (.int i), some (.lst (.int (k : Int) :: .int d1 :: .int d2 :: .int d3 :: .int d4 :: (R.map fun d : Nat => (d : Int)).map .int)), some (.tup (row.map fun d : Nat => MV.int d)), some (.str (hexT row)), some (.str z), some (.int 1), z7, z8]) := lp
  have cm : cutM (MV.int (k : Int) :: .int d1 :: .int d2 :: .int d3 :: .int d4 :: (R.map fun d : Nat => (d : Int)).map .int) (some 5) (some (5 + (k : Int))) = (R.take k).map fun d : Nat => MV.int d := cm.trans (by rw [List.map_map]; rfl)
  generalize (MV.int (k : Int) :: .int d1 :: .int d2 :: .int d3 :: .int d4 :: (R.map fun d : Nat => (d : Int)).map .int : List MV) = DS at *
  generalize ((R.take k).map fun d : Nat => MV.int d) = RT at *
  generalize (row.map fun d : Nat => MV.int d) = RW at *
  generalize hexT row = HT at *
  generalize W.map MV.int = WM at *
  generalize List.replicate 16 (MV.int 256) = RP at *
  have fb : bInt [.bl (decide ((i : Int) = 3))] = some (.int (if (i : Int) = 3 then 1 else 0)) := by
    by_cases h : (i : Int) = 3
    · rw [if_pos h, decide_eq_true h]; rfl
    · rw [if_neg h, decide_eq_false h]; rfl
  try simp at hc0
  refine ⟨some (.lst DS), some (.tup RW), some (.str HT), some (.str z), some (.int 1), z7, z8, ?_⟩
  simp [b_law16_1, -fNe_tt, hc0, fm, wl, hds, x0, cm, c15, fb, hm, hrow, tx, ph, pu, ne1, ne2, ez, rg, i2, lp, szOk_small]
theorem law_true : ∀ ns : List Int, ns.length ≤ 63 → ∃ bs, f_law16 [.scr ns] = .ok (.bl true, bs) := by
  intro ns hns
  refine ⟨[], mFn_ok ?_⟩
  obtain ⟨ρ', e, a1, a2, a3, a4, a5, a6, a7, a8, rfl⟩ := loop_nxr (g := gSet 1) (b := b_law16_1) (lo := 0) (c := 1) (n := 6) (ρ := [some (.scr ns), none, none, none, none, none, none, none, none])
    (fun _ ρ => ∃ a1 a2 a3 a4 a5 a6 a7 a8, ρ = [some (.scr ns), a1, a2, a3, a4, a5, a6, a7, a8]) ⟨_, _, _, _, _, _, _, _, rfl⟩ (by
      rintro i ρ hi ⟨a1, a2, a3, a4, a5, a6, a7, a8, rfl⟩
      obtain ⟨b2, b3, b4, b5, b6, b7, b8, e⟩ := body09 ns i hi a2 a3 a4 a5 a6 a7 a8
      have ei : (0 : Int) + (i : Nat) * 1 = (i : Int) := by omega
      rw [ei]
      exact ⟨_, rfl, _, e, _, _, _, _, _, _, _, _, rfl⟩)
  have i6 : inR 6 = true := inR_of (by decide) (by decide)
  exact ⟨_, by simp [m_law16, i6, e]; rfl⟩
def top (i : Nat) : Stmt := PySem.Challenge.pw_tensloft_k09_bytes_as_text.main.body.getD i (.Pass ⟨0, 0, 0, 0⟩)
section
variable {P : Program} {w : World} {K : PySem.W.Frag} {mg : Str → Option Value} {base : Heap} {f : Addr} {fd : FuncData}
abbrev s_lmixed : Stmt := top 12
abbrev N_lmixed : List Str := ["_law_cell_here", "_law_k", "_law_salt", "_law_primes", "_law_one", "_law_two"]
theorem sc_lmixed : FnScope N_lmixed ["_law_cell_here", "_law_k", "_law_salt"] (defScope s_lmixed) := ⟨rfl, rfl, rfl, by decide +kernel, rfl, by decide +kernel, by decide +kernel⟩
theorem v_lmixed_0 : LV s_lmixed "_law_cell_here" := by decide +kernel
theorem v_lmixed_1 : LV s_lmixed "_law_k" := by decide +kernel
theorem v_lmixed_2 : LV s_lmixed "_law_salt" := by decide +kernel
theorem v_lmixed_3 : LV s_lmixed "_law_primes" := by decide +kernel
theorem v_lmixed_4 : LV s_lmixed "_law_one" := by decide +kernel
theorem v_lmixed_5 : LV s_lmixed "_law_two" := by decide +kernel
theorem ok_lmixed (F : Fun K "_law_mixed" "_law_mixed" s_lmixed f fd) (B : Bn mg)     :
    FnOk P w K mg base (L2N.CX P w) 2 f fd ["_law_cell_here", "_law_k", "_law_salt"] (spF K mg 3 [] f_lmixed) := by
  refine fn_ok F sc_lmixed (by decide) (by decide) fun cdv A outer s H E hr => ?_
  have nd := sc_lmixed.nd
  have tk : TkO (cxO P w K mg base N_lmixed "_law_mixed" s_lmixed f cdv A outer s H E) E := L2N.takes_of rfl rfl rfl rfl
  have pn : PnO P w (cxO P w K mg base N_lmixed "_law_mixed" s_lmixed f cdv A outer s H E) := passes_of rfl
  unfold m_lmixed
  exact mss_cons (ms_set (i := 3) nd rfl (.inl v_lmixed_3) (me_lst (ma_cons (me_int) (ma_cons (me_int) (ma_cons (me_int) (ma_cons (me_int) (ma_cons (me_int) (ma_cons (me_int) (ma_cons (me_int) (ma_cons (me_int) (ma_nil))))))))))) (mss_cons (ms_set (i := 4) nd rfl (.inl v_lmixed_4) (me_mod (me_add (me_add (me_add (me_var (i := 0) rfl (.inl v_lmixed_0)) (me_mul (me_int) (me_var (i := 2) rfl (.inl v_lmixed_2)))) (me_mul (me_int) (me_var (i := 1) rfl (.inl v_lmixed_1)))) (me_int)) (me_int))) (mss_cons (ms_set (i := 4) nd rfl (.inl v_lmixed_4) (me_mod (me_pow (me_var (i := 4) rfl (.inl v_lmixed_4)) (me_int)) (me_ix (me_var (i := 3) rfl (.inl v_lmixed_3)) (me_mod (me_var (i := 1) rfl (.inl v_lmixed_1)) (me_int))))) (mss_cons (ms_set (i := 5) nd rfl (.inl v_lmixed_5) (me_mod (me_add (me_add (me_var (i := 4) rfl (.inl v_lmixed_4)) (me_mul (me_int) (me_var (i := 2) rfl (.inl v_lmixed_2)))) (me_var (i := 1) rfl (.inl v_lmixed_1))) (me_int))) (mss_one (ms_ret (me_add (me_mul (me_mod (me_pow (me_var (i := 5) rfl (.inl v_lmixed_5)) (me_int)) (me_int)) (me_int)) (me_var (i := 4) rfl (.inl v_lmixed_4))))))))

abbrev s_ldraws : Stmt := top 13
abbrev N_ldraws : List Str := ["_law_cell_here", "_law_salt", "_law_widths", "_law_found", "_law_left", "_law_k"]
theorem sc_ldraws : FnScope N_ldraws ["_law_cell_here", "_law_salt", "_law_widths"] (defScope s_ldraws) := ⟨rfl, rfl, rfl, by decide +kernel, rfl, by decide +kernel, by decide +kernel⟩
theorem v_ldraws_0 : LV s_ldraws "_law_cell_here" := by decide +kernel
theorem v_ldraws_1 : LV s_ldraws "_law_salt" := by decide +kernel
theorem v_ldraws_2 : LV s_ldraws "_law_widths" := by decide +kernel
theorem v_ldraws_3 : LV s_ldraws "_law_found" := by decide +kernel
theorem v_ldraws_4 : LV s_ldraws "_law_left" := by decide +kernel
theorem v_ldraws_5 : LV s_ldraws "_law_k" := by decide +kernel
theorem g_ldraws_abs : GV "_law_draws" s_ldraws "abs" := fun _ _ _ => rfl
theorem g_ldraws_len : GV "_law_draws" s_ldraws "len" := fun _ _ _ => rfl
theorem g_ldraws_range : GV "_law_draws" s_ldraws "range" := fun _ _ _ => rfl
theorem g_ldraws_law_mixed : GV "_law_draws" s_ldraws "_law_mixed" := fun _ _ _ => rfl
theorem ok_ldraws (F : Fun K "_law_draws" "_law_draws" s_ldraws f fd) (B : Bn mg) (h_lmixed : Fd P w K mg base "_law_mixed" 2 ["_law_cell_here", "_law_k", "_law_salt"] [] f_lmixed)    :
    FnOk P w K mg base (L2N.CX P w) 4 f fd ["_law_cell_here", "_law_salt", "_law_widths"] (spF K mg 3 [] f_ldraws) := by
  refine fn_ok F sc_ldraws (by decide) (by decide) fun cdv A outer s H E hr => ?_
  have nd := sc_ldraws.nd
  have tk : TkO (cxO P w K mg base N_ldraws "_law_draws" s_ldraws f cdv A outer s H E) E := L2N.takes_of rfl rfl rfl rfl
  have pn : PnO P w (cxO P w K mg base N_ldraws "_law_draws" s_ldraws f cdv A outer s H E) := passes_of rfl
  unfold m_ldraws
  exact mss_cons (ms_setO (i := 3) nd rfl (.inl v_ldraws_3) (mo_lst (ma_nil))) (mss_cons (ms_set (i := 4) nd rfl (.inl v_ldraws_4) (me_int)) (mss_cons (ms_if (mt_cmp op_ge os_ge (mb_abs B.abs (ma_cons (me_var (i := 0) rfl (.inl v_ldraws_0)) (ma_nil)) (hg := (g_ldraws_abs _ _ _))) (me_pow (me_int) (me_int)) (nomark _)) (mss_one (ms_set (i := 4) nd rfl (.inl v_ldraws_4) (mb_abs B.abs (ma_cons (me_var (i := 0) rfl (.inl v_ldraws_0)) (ma_nil)) (hg := (g_ldraws_abs _ _ _))))) (mss_nil)) (mss_cons (ms_for pn rfl (mi_r1 B.range (ma_cons (mb_len B.len (ma_cons (me_var (i := 2) rfl (.inl v_ldraws_2)) (ma_nil)) (hg := (g_ldraws_len _ _ _))) (ma_nil)) (hg := (g_ldraws_range _ _ _))) (mg_name (i := 5) nd rfl (.inl v_ldraws_5)) (mss_one (ms_if (mt_cmp op_gt os_gt (me_var (i := 4) rfl (.inl v_ldraws_4)) (me_int) (nomark _)) (mss_cons (ms_expr (me_lm1 ls_append PySem.F.slot_list_append PySem.F.type_list_append mt_append (i := 3) rfl (.inl v_ldraws_3) (ma_cons (me_mod (me_var (i := 4) rfl (.inl v_ldraws_4)) (me_ix (me_var (i := 2) rfl (.inl v_ldraws_2)) (me_var (i := 5) rfl (.inl v_ldraws_5)))) (ma_nil)))) (mss_one (ms_set (i := 4) nd rfl (.inl v_ldraws_4) (me_div (me_var (i := 4) rfl (.inl v_ldraws_4)) (me_ix (me_var (i := 2) rfl (.inl v_ldraws_2)) (me_var (i := 5) rfl (.inl v_ldraws_5))))))) (mss_one (ms_expr (me_lm1 ls_append PySem.F.slot_list_append PySem.F.type_list_append mt_append (i := 3) rfl (.inl v_ldraws_3) (ma_cons (me_mod (me_fz (mf_call h_lmixed hr (by decide) tk (ma_cons (me_var (i := 0) rfl (.inl v_ldraws_0)) (ma_cons (me_var (i := 5) rfl (.inl v_ldraws_5)) (ma_cons (me_var (i := 1) rfl (.inl v_ldraws_1)) (ma_nil)))) (lng_cons (lng_cons (lng_cons lng_nil))) (hg := (g_ldraws_law_mixed _ _ _)))) (me_ix (me_var (i := 2) rfl (.inl v_ldraws_2)) (me_var (i := 5) rfl (.inl v_ldraws_5)))) (ma_nil)))))))) (mss_one (ms_retO (mo_var (i := 3) rfl (.inl v_ldraws_3)))))))

abbrev s_lbyte_text : Stmt := top 16
abbrev N_lbyte_text : List Str := ["_law_byte"]
theorem sc_lbyte_text : FnScope N_lbyte_text ["_law_byte"] (defScope s_lbyte_text) := ⟨rfl, rfl, rfl, by decide +kernel, rfl, by decide +kernel, by decide +kernel⟩
theorem v_lbyte_text_0 : LV s_lbyte_text "_law_byte" := by decide +kernel
theorem ok_lbyte_text (F : Fun K "_law_byte_text" "_law_byte_text" s_lbyte_text f fd) (B : Bn mg)     :
    FnOk P w K mg base (L2N.CX P w) 2 f fd ["_law_byte"] (spF K mg 1 [] f_lbyte_text) := by
  refine fn_ok F sc_lbyte_text (by decide) (by decide) fun cdv A outer s H E hr => ?_
  have nd := sc_lbyte_text.nd
  have tk : TkO (cxO P w K mg base N_lbyte_text "_law_byte_text" s_lbyte_text f cdv A outer s H E) E := L2N.takes_of rfl rfl rfl rfl
  have pn : PnO P w (cxO P w K mg base N_lbyte_text "_law_byte_text" s_lbyte_text f cdv A outer s H E) := passes_of rfl
  unfold m_lbyte_text
  exact mss_one (ms_ret (me_add (me_ix (me_str) (me_div (me_var (i := 0) rfl (.inl v_lbyte_text_0)) (me_int))) (me_ix (me_str) (me_mod (me_var (i := 0) rfl (.inl v_lbyte_text_0)) (me_int)))))

abbrev s_ltext3 : Stmt := top 17
abbrev N_ltext3 : List Str := ["_law_row_here", "_law_byte"]
theorem sc_ltext3 : FnScope N_ltext3 ["_law_row_here"] (defScope s_ltext3) := ⟨rfl, rfl, rfl, by decide +kernel, rfl, by decide +kernel, by decide +kernel⟩
theorem v_ltext3_0 : LV s_ltext3 "_law_row_here" := by decide +kernel
theorem ok_ltext3 (F : Fun K "_law_text" "_law_text" s_ltext3 f fd) (B : Bn mg) (h_lbyte_text : Fd P w K mg base "_law_byte_text" 2 ["_law_byte"] [] f_lbyte_text)    :
    FnOk P w K mg base (L2N.CX P w) 4 f fd ["_law_row_here"] (spF K mg 1 [] f_ltext3) := by
  refine fn_ok F sc_ltext3 (by decide) (by decide) fun cdv A outer s H E hr => ?_
  have nd := sc_ltext3.nd
  have tk : TkO (cxO P w K mg base N_ltext3 "_law_text" s_ltext3 f cdv A outer s H E) E := L2N.takes_of rfl rfl rfl rfl
  have pn : PnO P w (cxO P w K mg base N_ltext3 "_law_text" s_ltext3 f cdv A outer s H E) := passes_of rfl
  unfold m_ltext3
  exact mss_one (ms_ret (me_sm ss_join PySem.F.slot_str_join PySem.F.type_str_join mt_join (me_str) (ma_cons (me_fz (mo_lc (own := [("_law_byte", 1)]) (g := .nm 1) rfl nd (mi_val (me_var (i := 0) rfl (.inl v_ltext3_0))) (blkOk_at (N' := ["_law_row_here", "_law_byte"]) (sc' := defScope s_ltext3) rfl rfl (by decide +kernel)) (fun _ _ _ _ _ => pg_name (i := 1) nd rfl (Or.inl rfl)) (fun _ _ _ _ _ => mts_nil) (fun _ _ _ _ _ => me_fz (mf_call0 h_lbyte_text hr (by decide) (ma_cons (me_var (i := 1) rfl (.inl rfl)) (ma_nil)) (lng_cons lng_nil) (hg := rfl))) (hbs := hbs_of rfl))) (ma_nil))))

abbrev s_lspoilt2 : Stmt := top 20
abbrev N_lspoilt2 : List Str := ["_law_text_here", "_law_draws_here", "_law_place", "_law_most", "_law_sign"]
theorem sc_lspoilt2 : FnScope N_lspoilt2 ["_law_text_here", "_law_draws_here"] (defScope s_lspoilt2) := ⟨rfl, rfl, rfl, by decide +kernel, rfl, by decide +kernel, by decide +kernel⟩
theorem v_lspoilt2_0 : LV s_lspoilt2 "_law_text_here" := by decide +kernel
theorem v_lspoilt2_1 : LV s_lspoilt2 "_law_draws_here" := by decide +kernel
theorem v_lspoilt2_2 : LV s_lspoilt2 "_law_place" := by decide +kernel
theorem v_lspoilt2_3 : LV s_lspoilt2 "_law_most" := by decide +kernel
theorem v_lspoilt2_4 : LV s_lspoilt2 "_law_sign" := by decide +kernel
theorem g_lspoilt2_len : GV "_law_spoilt" s_lspoilt2 "len" := fun _ _ _ => rfl
theorem ok_lspoilt2 (F : Fun K "_law_spoilt" "_law_spoilt" s_lspoilt2 f fd) (B : Bn mg)     :
    FnOk P w K mg base (L2N.CX P w) 2 f fd ["_law_text_here", "_law_draws_here"] (spF K mg 2 [] f_lspoilt2) := by
  refine fn_ok F sc_lspoilt2 (by decide) (by decide) fun cdv A outer s H E hr => ?_
  have nd := sc_lspoilt2.nd
  have tk : TkO (cxO P w K mg base N_lspoilt2 "_law_spoilt" s_lspoilt2 f cdv A outer s H E) E := L2N.takes_of rfl rfl rfl rfl
  have pn : PnO P w (cxO P w K mg base N_lspoilt2 "_law_spoilt" s_lspoilt2 f cdv A outer s H E) := passes_of rfl
  unfold m_lspoilt2
  exact mss_cons (ms_set (i := 2) nd rfl (.inl v_lspoilt2_2) (me_mod (me_ix (me_var (i := 1) rfl (.inl v_lspoilt2_1)) (me_int)) (me_add (mb_len B.len (ma_cons (me_var (i := 0) rfl (.inl v_lspoilt2_0)) (ma_nil)) (hg := (g_lspoilt2_len _ _ _))) (me_int)))) (mss_cons (ms_set (i := 3) nd rfl (.inl v_lspoilt2_3) (me_str)) (mss_cons (ms_set (i := 4) nd rfl (.inl v_lspoilt2_4) (me_ix (me_var (i := 3) rfl (.inl v_lspoilt2_3)) (me_mod (me_ix (me_var (i := 1) rfl (.inl v_lspoilt2_1)) (me_int)) (mb_len B.len (ma_cons (me_var (i := 3) rfl (.inl v_lspoilt2_3)) (ma_nil)) (hg := (g_lspoilt2_len _ _ _)))))) (mss_cons (ms_if (mt_cmp op_lt os_lt (me_ix (me_var (i := 1) rfl (.inl v_lspoilt2_1)) (me_int)) (me_int) (nomark _)) (mss_one (ms_set (i := 4) nd rfl (.inl v_lspoilt2_4) (me_ix (me_str) (me_mod (me_ix (me_var (i := 1) rfl (.inl v_lspoilt2_1)) (me_int)) (me_int))))) (mss_nil)) (mss_cons (ms_if (mt_cmp (op_eqM hr.units) os_eq (me_ix (me_var (i := 1) rfl (.inl v_lspoilt2_1)) (me_int)) (me_int) (nomark _)) (mss_one (ms_ret (me_add (me_add (me_sl (me_var (i := 0) rfl (.inl v_lspoilt2_0)) (mp_none) (mp_some (me_var (i := 2) rfl (.inl v_lspoilt2_2)))) (me_var (i := 4) rfl (.inl v_lspoilt2_4))) (me_sl (me_var (i := 0) rfl (.inl v_lspoilt2_0)) (mp_some (me_var (i := 2) rfl (.inl v_lspoilt2_2))) (mp_none))))) (mss_nil)) (mss_cons (ms_if (mt_cmp (op_eqM hr.units) os_eq (me_ix (me_var (i := 1) rfl (.inl v_lspoilt2_1)) (me_int)) (me_int) (nomark _)) (mss_one (ms_ret (me_add (me_add (me_sl (me_var (i := 0) rfl (.inl v_lspoilt2_0)) (mp_none) (mp_some (me_var (i := 2) rfl (.inl v_lspoilt2_2)))) (me_var (i := 4) rfl (.inl v_lspoilt2_4))) (me_sl (me_var (i := 0) rfl (.inl v_lspoilt2_0)) (mp_some (me_add (me_var (i := 2) rfl (.inl v_lspoilt2_2)) (me_int))) (mp_none))))) (mss_nil)) (mss_cons (ms_if (mt_cmp (op_eqM hr.units) os_eq (me_ix (me_var (i := 1) rfl (.inl v_lspoilt2_1)) (me_int)) (me_int) (nomark _)) (mss_one (ms_ret (me_add (me_sl (me_var (i := 0) rfl (.inl v_lspoilt2_0)) (mp_none) (mp_some (me_var (i := 2) rfl (.inl v_lspoilt2_2)))) (me_sl (me_var (i := 0) rfl (.inl v_lspoilt2_0)) (mp_some (me_add (me_var (i := 2) rfl (.inl v_lspoilt2_2)) (me_int))) (mp_none))))) (mss_nil)) (mss_one (ms_ret (me_add (me_sl (me_var (i := 0) rfl (.inl v_lspoilt2_0)) (mp_some (me_var (i := 2) rfl (.inl v_lspoilt2_2))) (mp_none)) (me_sl (me_var (i := 0) rfl (.inl v_lspoilt2_0)) (mp_none) (mp_some (me_var (i := 2) rfl (.inl v_lspoilt2_2)))))))))))))

abbrev s_lcell : Stmt := top 11
abbrev N_lcell : List Str := ["_law_script", "_law_k"]
theorem sc_lcell : FnScope N_lcell ["_law_script", "_law_k"] (defScope s_lcell) := ⟨rfl, rfl, rfl, by decide +kernel, rfl, by decide +kernel, by decide +kernel⟩
theorem v_lcell_0 : LV s_lcell "_law_script" := by decide +kernel
theorem v_lcell_1 : LV s_lcell "_law_k" := by decide +kernel
theorem g_lcell_len : GV "_law_cell" s_lcell "len" := fun _ _ _ => rfl
theorem ok_lcell (F : Fun K "_law_cell" "_law_cell" s_lcell f fd) (B : Bn mg)     :
    FnOk P w K mg base (L2N.CX P w) 2 f fd ["_law_script", "_law_k"] (spF K mg 2 [] f_lcell) := by
  refine fn_ok F sc_lcell (by decide) (by decide) fun cdv A outer s H E hr => ?_
  have nd := sc_lcell.nd
  have tk : TkO (cxO P w K mg base N_lcell "_law_cell" s_lcell f cdv A outer s H E) E := L2N.takes_of rfl rfl rfl rfl
  have pn : PnO P w (cxO P w K mg base N_lcell "_law_cell" s_lcell f cdv A outer s H E) := passes_of rfl
  unfold m_lcell
  exact mss_cons (ms_if (mt_cmp op_lt os_lt (me_var (i := 1) rfl (.inl v_lcell_1)) (mb_len B.len (ma_cons (me_var (i := 0) rfl (.inl v_lcell_0)) (ma_nil)) (hg := (g_lcell_len _ _ _))) (nomark _)) (mss_one (ms_ret (me_ix (me_var (i := 0) rfl (.inl v_lcell_0)) (me_var (i := 1) rfl (.inl v_lcell_1))))) (mss_nil)) (mss_cons (ms_if (mt_cmp (op_eqM hr.units) os_eq (mb_len B.len (ma_cons (me_var (i := 0) rfl (.inl v_lcell_0)) (ma_nil)) (hg := (g_lcell_len _ _ _))) (me_int) (nomark _)) (mss_one (ms_ret (me_mul (me_int) (me_add (me_var (i := 1) rfl (.inl v_lcell_1)) (me_int))))) (mss_nil)) (mss_one (ms_ret (me_add (me_ix (me_var (i := 0) rfl (.inl v_lcell_0)) (me_mod (me_var (i := 1) rfl (.inl v_lcell_1)) (mb_len B.len (ma_cons (me_var (i := 0) rfl (.inl v_lcell_0)) (ma_nil)) (hg := (g_lcell_len _ _ _))))) (me_mul (me_int) (me_var (i := 1) rfl (.inl v_lcell_1)))))))

abbrev s_pbyte_told : Stmt := top 8
abbrev N_pbyte_told : List Str := ["word", "sign"]
theorem sc_pbyte_told : FnScope N_pbyte_told ["word"] (defScope s_pbyte_told) := ⟨rfl, rfl, rfl, by decide +kernel, rfl, by decide +kernel, by decide +kernel⟩
theorem v_pbyte_told_0 : LV s_pbyte_told "word" := by decide +kernel
theorem g_pbyte_told_len : GV "byte_told" s_pbyte_told "len" := fun _ _ _ => rfl
theorem g_pbyte_told_all : GV "byte_told" s_pbyte_told "all" := fun _ _ _ => rfl
theorem g_pbyte_told_NoText : GV "byte_told" s_pbyte_told "NoText" := fun _ _ _ => rfl
theorem g_pbyte_told_SIGNS_OF_HALVES : GV "byte_told" s_pbyte_told "SIGNS_OF_HALVES" := fun _ _ _ => rfl
theorem ok_pbyte_told (F : Fun K "byte_told" "byte_told" s_pbyte_told f fd) (B : Bn mg)   (xcl0_NoText : Cl0 K mg "NoText") (c_SIGNS_OF_HALVES : Cst K mg "SIGNS_OF_HALVES" (.str "0123456789ABCDEF")) :
    FnOk P w K mg base (L2N.CX P w) 2 f fd ["word"] (spF K mg 1 [] f_pbyte_told) := by
  refine fn_ok F sc_pbyte_told (by decide) (by decide) fun cdv A outer s H E hr => ?_
  have nd := sc_pbyte_told.nd
  have tk : TkO (cxO P w K mg base N_pbyte_told "byte_told" s_pbyte_told f cdv A outer s H E) E := L2N.takes_of rfl rfl rfl rfl
  have pn : PnO P w (cxO P w K mg base N_pbyte_told "byte_told" s_pbyte_told f cdv A outer s H E) := passes_of rfl
  unfold m_pbyte_told
  exact mss_cons (ms_if (PW.pt (mw_or (mt_cmp (op_neM hr.units) os_ne (mb_len B.len (ma_cons (me_var (i := 0) rfl (.inl v_pbyte_told_0)) (ma_nil)) (hg := (g_pbyte_told_len _ _ _))) (me_int) (nomark _)) (mw_one_or (mt_not (mt_val (mb_all rfl B.all (ma_cons (me_fz (mo_lc (own := [("sign", 1)]) (g := .nm 1) rfl nd (mi_val (me_var (i := 0) rfl (.inl v_pbyte_told_0))) (blkOk_at (N' := ["word", "sign"]) (sc' := defScope s_pbyte_told) rfl rfl (by decide +kernel)) (fun _ _ _ _ _ => pg_name (i := 1) nd rfl (Or.inl rfl)) (fun _ _ _ _ _ => mts_nil) (fun _ _ _ _ _ => me_cmp op_inM os_in (me_var (i := 1) rfl (.inl rfl)) (mf_con c_SIGNS_OF_HALVES (hg := rfl)) rfl) (hbs := hbs_of rfl))) (ma_nil)) (hg := (g_pbyte_told_all _ _ _)))))))) (mss_one (ms_raise0 xcl0_NoText rfl tk (g_pbyte_told_NoText _ _ _))) (mss_nil)) (mss_one (ms_ret (me_add (me_mul (me_int) (me_sm ss_index PySem.F.slot_str_index PySem.F.type_str_index mt_sindex (mf_con c_SIGNS_OF_HALVES (hg := (g_pbyte_told_SIGNS_OF_HALVES _ _ _))) (ma_cons (me_ix (me_var (i := 0) rfl (.inl v_pbyte_told_0)) (me_int)) (ma_nil)))) (me_sm ss_index PySem.F.slot_str_index PySem.F.type_str_index mt_sindex (mf_con c_SIGNS_OF_HALVES (hg := (g_pbyte_told_SIGNS_OF_HALVES _ _ _))) (ma_cons (me_ix (me_var (i := 0) rfl (.inl v_pbyte_told_0)) (me_int)) (ma_nil))))))

abbrev s_punhexed : Stmt := top 9
abbrev N_punhexed : List Str := ["text", "word"]
theorem sc_punhexed : FnScope N_punhexed ["text"] (defScope s_punhexed) := ⟨rfl, rfl, rfl, by decide +kernel, rfl, by decide +kernel, by decide +kernel⟩
theorem v_punhexed_0 : LV s_punhexed "text" := by decide +kernel
theorem g_punhexed_tuple : GV "unhexed" s_punhexed "tuple" := fun _ _ _ => rfl
theorem ok_punhexed (F : Fun K "unhexed" "unhexed" s_punhexed f fd) (B : Bn mg) (h_pbyte_told : Fd P w K mg base "byte_told" 2 ["word"] [] f_pbyte_told)    :
    FnOk P w K mg base (L2N.CX P w) 4 f fd ["text"] (spF K mg 1 [] f_punhexed) := by
  refine fn_ok F sc_punhexed (by decide) (by decide) fun cdv A outer s H E hr => ?_
  have nd := sc_punhexed.nd
  have tk : TkO (cxO P w K mg base N_punhexed "unhexed" s_punhexed f cdv A outer s H E) E := L2N.takes_of rfl rfl rfl rfl
  have pn : PnO P w (cxO P w K mg base N_punhexed "unhexed" s_punhexed f cdv A outer s H E) := passes_of rfl
  unfold m_punhexed
  exact mss_cons (ms_if (mt_cmp (op_eqM hr.units) os_eq (me_var (i := 0) rfl (.inl v_punhexed_0)) (me_str) (nomark _)) (mss_one (ms_ret (me_tup (ma_nil)))) (mss_nil)) (mss_one (ms_ret (mb_tuple B.tuple (ma_cons (me_fz (mo_lcX (own := [("word", 1)]) (g := .nm 1) rfl rfl tk rfl nd (mi_val (me_sm ss_split PySem.F.slot_str_split PySem.F.type_str_split mt_split (me_var (i := 0) rfl (.inl v_punhexed_0)) (ma_cons (me_str) (ma_nil)))) (blkOk_at (N' := ["text", "word"]) (sc' := defScope s_punhexed) rfl rfl (by decide +kernel)) (fun _ => fun _ _ _ _ _ => pg_name (i := 1) nd rfl (Or.inl rfl)) (fun _ _ _ _ _ _ _ tk => me_fz (mf_call h_pbyte_told hr (by decide) tk (ma_cons (me_var (i := 1) rfl (.inl rfl)) (ma_nil)) (lng_cons lng_nil) (hg := rfl))) (hbs := hbs_of rfl))) (ma_nil)) (hg := (g_punhexed_tuple _ _ _)))))

abbrev s_lseen2 : Stmt := top 19
abbrev N_lseen2 : List Str := ["_law_text_here", "_law_found", "e"]
theorem sc_lseen2 : FnScope N_lseen2 ["_law_text_here"] (defScope s_lseen2) := ⟨rfl, rfl, rfl, by decide +kernel, rfl, by decide +kernel, by decide +kernel⟩
theorem v_lseen2_0 : LV s_lseen2 "_law_text_here" := by decide +kernel
theorem v_lseen2_1 : LV s_lseen2 "_law_found" := by decide +kernel
theorem v_lseen2_2 : LV s_lseen2 "e" := by decide +kernel
theorem g_lseen2_NoText : GV "_law_seen" s_lseen2 "NoText" := fun _ _ _ => rfl
theorem g_lseen2_unhexed : GV "_law_seen" s_lseen2 "unhexed" := fun _ _ _ => rfl
theorem g_lseen2_isinstance : GV "_law_seen" s_lseen2 "isinstance" := fun _ _ _ => rfl
theorem g_lseen2_NoFit : GV "_law_seen" s_lseen2 "NoFit" := fun _ _ _ => rfl
theorem g_lseen2_Wrong : GV "_law_seen" s_lseen2 "Wrong" := fun _ _ _ => rfl
theorem g_lseen2_LoftError : GV "_law_seen" s_lseen2 "LoftError" := fun _ _ _ => rfl
theorem ok_lseen2 (F : Fun K "_law_seen" "_law_seen" s_lseen2 f fd) (B : Bn mg) (h_punhexed : Fd P w K mg base "unhexed" 4 ["text"] [] f_punhexed)  (xext_NoText_NoText_True : ExT K mg "NoText" "NoText" true) (xcls_NoText : ∃ D, mg "NoText" = some (.ref D)) (xxcf_NoText_ : XcF K mg [] "NoText") (xkit_NoFit_NoText_False : KiT K mg "NoFit" "NoText" false) (xcls_NoFit : ∃ D, mg "NoFit" = some (.ref D)) (xkit_Wrong_NoText_False : KiT K mg "Wrong" "NoText" false) (xcls_Wrong : ∃ D, mg "Wrong" = some (.ref D)) (xkit_LoftError_NoText_True : KiT K mg "LoftError" "NoText" true) (xcls_LoftError : ∃ D, mg "LoftError" = some (.ref D))  :
    FnOk P w K mg base (L2N.CX P w) 6 f fd ["_law_text_here"] (spF K mg 1 [] f_lseen2) := by
  refine fn_ok F sc_lseen2 (by decide) (by decide) fun cdv A outer s H E hr => ?_
  have nd := sc_lseen2.nd
  have tk : TkO (cxO P w K mg base N_lseen2 "_law_seen" s_lseen2 f cdv A outer s H E) E := L2N.takes_of rfl rfl rfl rfl
  have pn : PnO P w (cxO P w K mg base N_lseen2 "_law_seen" s_lseen2 f cdv A outer s H E) := passes_of rfl
  unfold m_lseen2
  exact mss_cons (ms_set (i := 1) nd rfl (.inl v_lseen2_1) (me_non)) (mss_cons (ms_try (i := 2) (tab := [("NoText", true)]) rfl rfl nd rfl (by first | rfl | decide +kernel) (g_lseen2_NoText _ _ _) tk (fa_cons xext_NoText_NoText_True (fa_nil)) xcls_NoText (fun W pl xe tk pn => mss_one (ms_set (i := 1) nd rfl (.inl v_lseen2_1) (me_tup (ma_cons (me_str) (ma_cons (me_fz (mf_call h_punhexed hr (by decide) tk (ma_cons (me_var (i := 0) rfl (.inl v_lseen2_0)) (ma_nil)) (lng_cons lng_nil) (hg := (g_lseen2_unhexed _ _ _)))) (ma_nil)))))) (fun a oe C d pl e hC hT hz hv => mss_cons (ms_set (i := 1) nd rfl (.inl v_lseen2_1) (me_tup (ma_cons (me_str) (ma_cons (me_non) (ma_nil))))) (mss_one (ms_if (PW.pt (mw_or (mt_val (mx_is (xc_at (fs := []) (ts := ["NoText"]) (fa_cons xxcf_NoText_ (fa_nil)) (by decide) hC hT) (fa_cons xkit_NoFit_NoText_False (fa_nil)) xcls_NoFit hC hz hv rfl (.inl v_lseen2_2) B.isinstance (g_lseen2_isinstance _ _ _) (g_lseen2_NoFit _ _ _))) (mw_or (mt_val (mx_is (xc_at (fs := []) (ts := ["NoText"]) (fa_cons xxcf_NoText_ (fa_nil)) (by decide) hC hT) (fa_cons xkit_Wrong_NoText_False (fa_nil)) xcls_Wrong hC hz hv rfl (.inl v_lseen2_2) B.isinstance (g_lseen2_isinstance _ _ _) (g_lseen2_Wrong _ _ _))) (mw_one_or (mt_not (mt_val (mx_is (xc_at (fs := []) (ts := ["NoText"]) (fa_cons xxcf_NoText_ (fa_nil)) (by decide) hC hT) (fa_cons xkit_LoftError_NoText_True (fa_nil)) xcls_LoftError hC hz hv rfl (.inl v_lseen2_2) B.isinstance (g_lseen2_isinstance _ _ _) (g_lseen2_LoftError _ _ _)))))))) (mss_one (ms_set (i := 1) nd rfl (.inl v_lseen2_1) (me_non))) (mss_nil))))) (mss_one (ms_ret (me_var (i := 1) rfl (.inl v_lseen2_1)))))

abbrev s_lrow : Stmt := top 18
abbrev N_lrow : List Str := ["_law_text_here", "_law_row_here", "_law_word", "_law_sign"]
theorem sc_lrow : FnScope N_lrow ["_law_text_here"] (defScope s_lrow) := ⟨rfl, rfl, rfl, by decide +kernel, rfl, by decide +kernel, by decide +kernel⟩
theorem v_lrow_0 : LV s_lrow "_law_text_here" := by decide +kernel
theorem v_lrow_1 : LV s_lrow "_law_row_here" := by decide +kernel
theorem v_lrow_2 : LV s_lrow "_law_word" := by decide +kernel
theorem g_lrow_len : GV "_law_row" s_lrow "len" := fun _ _ _ => rfl
theorem g_lrow_all : GV "_law_row" s_lrow "all" := fun _ _ _ => rfl
theorem g_lrow_tuple : GV "_law_row" s_lrow "tuple" := fun _ _ _ => rfl
theorem ok_lrow (F : Fun K "_law_row" "_law_row" s_lrow f fd) (B : Bn mg)     :
    FnOk P w K mg base (L2N.CX P w) 2 f fd ["_law_text_here"] (spF K mg 1 [] f_lrow) := by
  refine fn_ok F sc_lrow (by decide) (by decide) fun cdv A outer s H E hr => ?_
  have nd := sc_lrow.nd
  have tk : TkO (cxO P w K mg base N_lrow "_law_row" s_lrow f cdv A outer s H E) E := L2N.takes_of rfl rfl rfl rfl
  have pn : PnO P w (cxO P w K mg base N_lrow "_law_row" s_lrow f cdv A outer s H E) := passes_of rfl
  unfold m_lrow
  exact mss_cons (ms_if (mt_cmp (op_eqM hr.units) os_eq (me_var (i := 0) rfl (.inl v_lrow_0)) (me_str) (nomark _)) (mss_one (ms_ret (me_tup (ma_nil)))) (mss_nil)) (mss_cons (ms_setO (i := 1) nd rfl (.inl v_lrow_1) (mo_lst (ma_nil))) (mss_cons (ms_for pn rfl (mi_val (me_sm ss_split PySem.F.slot_str_split PySem.F.type_str_split mt_split (me_var (i := 0) rfl (.inl v_lrow_0)) (ma_cons (me_str) (ma_nil)))) (mg_name (i := 2) nd rfl (.inl v_lrow_2)) (mss_cons (ms_if (PW.pt (mw_or (mt_cmp (op_neM hr.units) os_ne (mb_len B.len (ma_cons (me_var (i := 2) rfl (.inl v_lrow_2)) (ma_nil)) (hg := (g_lrow_len _ _ _))) (me_int) (nomark _)) (mw_one_or (mt_not (mt_val (mb_all rfl B.all (ma_cons (me_fz (mo_lc (own := [("_law_sign", 3)]) (g := .nm 3) rfl nd (mi_val (me_var (i := 2) rfl (.inl v_lrow_2))) (blkOk_at (N' := ["_law_text_here", "_law_row_here", "_law_word", "_law_sign"]) (sc' := defScope s_lrow) rfl rfl (by decide +kernel)) (fun _ _ _ _ _ => pg_name (i := 3) nd rfl (Or.inl rfl)) (fun _ _ _ _ _ => mts_nil) (fun _ _ _ _ _ => me_cmp op_inM os_in (me_var (i := 3) rfl (.inl rfl)) (me_str) rfl) (hbs := hbs_of rfl))) (ma_nil)) (hg := (g_lrow_all _ _ _)))))))) (mss_one (ms_ret (me_non))) (mss_nil)) (mss_one (ms_expr (me_lm1 ls_append PySem.F.slot_list_append PySem.F.type_list_append mt_append (i := 1) rfl (.inl v_lrow_1) (ma_cons (me_add (me_mul (me_int) (me_sm ss_index PySem.F.slot_str_index PySem.F.type_str_index mt_sindex (me_str) (ma_cons (me_ix (me_var (i := 2) rfl (.inl v_lrow_2)) (me_int)) (ma_nil)))) (me_sm ss_index PySem.F.slot_str_index PySem.F.type_str_index mt_sindex (me_str) (ma_cons (me_ix (me_var (i := 2) rfl (.inl v_lrow_2)) (me_int)) (ma_nil)))) (ma_nil))))))) (mss_one (ms_ret (mb_tuple B.tuple (ma_cons (me_var (i := 1) rfl (.inl v_lrow_1)) (ma_nil)) (hg := (g_lrow_tuple _ _ _)))))))

abbrev s_phexed : Stmt := top 7
abbrev N_phexed : List Str := ["row", "byte"]
theorem sc_phexed : FnScope N_phexed ["row"] (defScope s_phexed) := ⟨rfl, rfl, rfl, by decide +kernel, rfl, by decide +kernel, by decide +kernel⟩
theorem v_phexed_0 : LV s_phexed "row" := by decide +kernel
theorem ok_phexed (F : Fun K "hexed" "hexed" s_phexed f fd) (B : Bn mg)    (c_SIGNS_OF_HALVES : Cst K mg "SIGNS_OF_HALVES" (.str "0123456789ABCDEF")) :
    FnOk P w K mg base (L2N.CX P w) 2 f fd ["row"] (spF K mg 1 [] f_phexed) := by
  refine fn_ok F sc_phexed (by decide) (by decide) fun cdv A outer s H E hr => ?_
  have nd := sc_phexed.nd
  have tk : TkO (cxO P w K mg base N_phexed "hexed" s_phexed f cdv A outer s H E) E := L2N.takes_of rfl rfl rfl rfl
  have pn : PnO P w (cxO P w K mg base N_phexed "hexed" s_phexed f cdv A outer s H E) := passes_of rfl
  unfold m_phexed
  exact mss_one (ms_ret (me_sm ss_join PySem.F.slot_str_join PySem.F.type_str_join mt_join (me_str) (ma_cons (me_fz (mo_lc (own := [("byte", 1)]) (g := .nm 1) rfl nd (mi_val (me_var (i := 0) rfl (.inl v_phexed_0))) (blkOk_at (N' := ["row", "byte"]) (sc' := defScope s_phexed) rfl rfl (by decide +kernel)) (fun _ _ _ _ _ => pg_name (i := 1) nd rfl (Or.inl rfl)) (fun _ _ _ _ _ => mts_nil) (fun _ _ _ _ _ => me_add (me_ix (mf_con c_SIGNS_OF_HALVES (hg := rfl)) (me_div (me_var (i := 1) rfl (.inl rfl)) (me_int))) (me_ix (mf_con c_SIGNS_OF_HALVES (hg := rfl)) (me_mod (me_var (i := 1) rfl (.inl rfl)) (me_int)))) (hbs := hbs_of rfl))) (ma_nil))))

abbrev s_lwhole : Stmt := top 14
abbrev N_lwhole : List Str := ["_law_found"]
theorem sc_lwhole : FnScope N_lwhole ["_law_found"] (defScope s_lwhole) := ⟨rfl, rfl, rfl, by decide +kernel, rfl, by decide +kernel, by decide +kernel⟩
theorem v_lwhole_0 : LV s_lwhole "_law_found" := by decide +kernel
theorem g_lwhole_int : GV "_law_whole" s_lwhole "int" := fun _ _ _ => rfl
theorem g_lwhole_isinstance : GV "_law_whole" s_lwhole "isinstance" := fun _ _ _ => rfl
theorem g_lwhole_bool : GV "_law_whole" s_lwhole "bool" := fun _ _ _ => rfl
theorem ok_lwhole (F : Fun K "_law_whole" "_law_whole" s_lwhole f fd) (B : Bn mg)     :
    FnOk P w K mg base (L2N.CX P w) 2 f fd ["_law_found"] (spF K mg 1 [] f_lwhole) := by
  refine fn_ok F sc_lwhole (by decide) (by decide) fun cdv A outer s H E hr => ?_
  have nd := sc_lwhole.nd
  have tk : TkO (cxO P w K mg base N_lwhole "_law_whole" s_lwhole f cdv A outer s H E) E := L2N.takes_of rfl rfl rfl rfl
  have pn : PnO P w (cxO P w K mg base N_lwhole "_law_whole" s_lwhole f cdv A outer s H E) := passes_of rfl
  unfold m_lwhole
  exact mss_one (ms_ret (me_and (mb_isi B.isinstance (ma_cons (me_var (i := 0) rfl (.inl v_lwhole_0)) (ma_cons (me_bltn B.int (by decide +kernel) (w := .ty "int") rfl (hg := (g_lwhole_int _ _ _))) ma_nil)) (hg := (g_lwhole_isinstance _ _ _))) (me_one (me_not (mb_isi B.isinstance (ma_cons (me_var (i := 0) rfl (.inl v_lwhole_0)) (ma_cons (me_bltn B.bool (by decide +kernel) (w := .ty "bool") rfl (hg := (g_lwhole_bool _ _ _))) ma_nil)) (hg := (g_lwhole_isinstance _ _ _)))))))

abbrev s_lbytes : Stmt := top 15
abbrev N_lbytes : List Str := ["_law_found", "_law_many", "_law_part"]
theorem sc_lbytes : FnScope N_lbytes ["_law_found", "_law_many"] (defScope s_lbytes) := ⟨rfl, rfl, rfl, by decide +kernel, rfl, by decide +kernel, by decide +kernel⟩
theorem v_lbytes_0 : LV s_lbytes "_law_found" := by decide +kernel
theorem v_lbytes_1 : LV s_lbytes "_law_many" := by decide +kernel
theorem g_lbytes_tuple : GV "_law_bytes" s_lbytes "tuple" := fun _ _ _ => rfl
theorem g_lbytes_isinstance : GV "_law_bytes" s_lbytes "isinstance" := fun _ _ _ => rfl
theorem g_lbytes_len : GV "_law_bytes" s_lbytes "len" := fun _ _ _ => rfl
theorem g_lbytes_all : GV "_law_bytes" s_lbytes "all" := fun _ _ _ => rfl
theorem ok_lbytes (F : Fun K "_law_bytes" "_law_bytes" s_lbytes f fd) (B : Bn mg) (h_lwhole : Fd P w K mg base "_law_whole" 2 ["_law_found"] [] f_lwhole)    :
    FnOk P w K mg base (L2N.CX P w) 4 f fd ["_law_found", "_law_many"] (spF K mg 2 [] f_lbytes) := by
  refine fn_ok F sc_lbytes (by decide) (by decide) fun cdv A outer s H E hr => ?_
  have nd := sc_lbytes.nd
  have tk : TkO (cxO P w K mg base N_lbytes "_law_bytes" s_lbytes f cdv A outer s H E) E := L2N.takes_of rfl rfl rfl rfl
  have pn : PnO P w (cxO P w K mg base N_lbytes "_law_bytes" s_lbytes f cdv A outer s H E) := passes_of rfl
  unfold m_lbytes
  exact mss_cons (ms_if (PW.pt (mw_or (mt_not (mt_val (mb_isi B.isinstance (ma_cons (me_var (i := 0) rfl (.inl v_lbytes_0)) (ma_cons (me_bltn B.tuple (by decide +kernel) (w := .ty "tuple") rfl (hg := (g_lbytes_tuple _ _ _))) ma_nil)) (hg := (g_lbytes_isinstance _ _ _))))) (mw_one_or (mt_cmp (op_neM hr.units) os_ne (mb_len B.len (ma_cons (me_var (i := 0) rfl (.inl v_lbytes_0)) (ma_nil)) (hg := (g_lbytes_len _ _ _))) (me_var (i := 1) rfl (.inl v_lbytes_1)) (nomark _))))) (mss_one (ms_ret (me_bl))) (mss_nil)) (mss_one (ms_ret (mb_all rfl B.all (ma_cons (me_fz (mo_lc (own := [("_law_part", 2)]) (g := .nm 2) rfl nd (mi_val (me_var (i := 0) rfl (.inl v_lbytes_0))) (blkOk_at (N' := ["_law_found", "_law_many", "_law_part"]) (sc' := defScope s_lbytes) rfl rfl (by decide +kernel)) (fun _ _ _ _ _ => pg_name (i := 2) nd rfl (Or.inl rfl)) (fun _ _ _ _ _ => mts_nil) (fun _ _ _ _ _ => me_and (me_fz (mf_call0 h_lwhole hr (by decide) (ma_cons (me_var (i := 2) rfl (.inl rfl)) (ma_nil)) (lng_cons lng_nil) (hg := rfl))) (me_one (me_chain op_le os_le op_lt os_lt (me_int) (me_var (i := 2) rfl (.inl rfl)) (me_int)))) (hbs := hbs_of rfl))) (ma_nil)) (hg := (g_lbytes_all _ _ _)))))

abbrev s_law16 : Stmt := top 21
abbrev N_law16 : List Str := ["_law_script", "_law_k", "_law_draws_here", "_law_row_here", "_law_text_here", "_law_other", "_law_turn", "_law_found", "_law_due"]
theorem sc_law16 : FnScope N_law16 ["_law_script"] (defScope s_law16) := ⟨rfl, rfl, rfl, by decide +kernel, rfl, by decide +kernel, by decide +kernel⟩
theorem v_law16_0 : LV s_law16 "_law_script" := by decide +kernel
theorem v_law16_1 : LV s_law16 "_law_k" := by decide +kernel
theorem v_law16_2 : LV s_law16 "_law_draws_here" := by decide +kernel
theorem v_law16_3 : LV s_law16 "_law_row_here" := by decide +kernel
theorem v_law16_4 : LV s_law16 "_law_text_here" := by decide +kernel
theorem v_law16_5 : LV s_law16 "_law_other" := by decide +kernel
theorem v_law16_6 : LV s_law16 "_law_turn" := by decide +kernel
theorem v_law16_7 : LV s_law16 "_law_found" := by decide +kernel
theorem v_law16_8 : LV s_law16 "_law_due" := by decide +kernel
theorem g_law16_range : GV "law" s_law16 "range" := fun _ _ _ => rfl
theorem g_law16_law_cell : GV "law" s_law16 "_law_cell" := fun _ _ _ => rfl
theorem g_law16_law_draws : GV "law" s_law16 "_law_draws" := fun _ _ _ => rfl
theorem g_law16_tuple : GV "law" s_law16 "tuple" := fun _ _ _ => rfl
theorem g_law16_int : GV "law" s_law16 "int" := fun _ _ _ => rfl
theorem g_law16_law_text : GV "law" s_law16 "_law_text" := fun _ _ _ => rfl
theorem g_law16_hexed : GV "law" s_law16 "hexed" := fun _ _ _ => rfl
theorem g_law16_unhexed : GV "law" s_law16 "unhexed" := fun _ _ _ => rfl
theorem g_law16_law_spoilt : GV "law" s_law16 "_law_spoilt" := fun _ _ _ => rfl
theorem g_law16_law_seen : GV "law" s_law16 "_law_seen" := fun _ _ _ => rfl
theorem g_law16_law_row : GV "law" s_law16 "_law_row" := fun _ _ _ => rfl
theorem g_law16_len : GV "law" s_law16 "len" := fun _ _ _ => rfl
theorem g_law16_law_bytes : GV "law" s_law16 "_law_bytes" := fun _ _ _ => rfl
theorem ok_law16 (F : Fun K "law" "law" s_law16 f fd) (B : Bn mg) (h_ldraws : Fd P w K mg base "_law_draws" 4 ["_law_cell_here", "_law_salt", "_law_widths"] [] f_ldraws) (h_lcell : Fd P w K mg base "_law_cell" 2 ["_law_script", "_law_k"] [] f_lcell) (h_ltext3 : Fd P w K mg base "_law_text" 4 ["_law_row_here"] [] f_ltext3) (h_phexed : Fd P w K mg base "hexed" 2 ["row"] [] f_phexed) (h_punhexed : Fd P w K mg base "unhexed" 4 ["text"] [] f_punhexed) (h_lspoilt2 : Fd P w K mg base "_law_spoilt" 2 ["_law_text_here", "_law_draws_here"] [] f_lspoilt2) (h_lseen2 : Fd P w K mg base "_law_seen" 6 ["_law_text_here"] [] f_lseen2) (h_lrow : Fd P w K mg base "_law_row" 2 ["_law_text_here"] [] f_lrow) (h_lbytes : Fd P w K mg base "_law_bytes" 4 ["_law_found", "_law_many"] [] f_lbytes)    :
    FnOk P w K mg base (L2N.CX P w) 8 f fd ["_law_script"] (spF K mg 1 [] f_law16) := by
  refine fn_ok F sc_law16 (by decide) (by decide) fun cdv A outer s H E hr => ?_
  have nd := sc_law16.nd
  have tk : TkO (cxO P w K mg base N_law16 "law" s_law16 f cdv A outer s H E) E := L2N.takes_of rfl rfl rfl rfl
  have pn : PnO P w (cxO P w K mg base N_law16 "law" s_law16 f cdv A outer s H E) := passes_of rfl
  unfold m_law16
  exact mss_cons (ms_for pn rfl (mi_r1 B.range (ma_cons (me_int) (ma_nil)) (hg := (g_law16_range _ _ _))) (mg_name (i := 1) nd rfl (.inl v_law16_1)) (mss_cons (ms_set (i := 2) nd rfl (.inl v_law16_2) (me_fz (mf_call h_ldraws hr (by decide) tk (ma_cons (me_fz (mf_call h_lcell hr (by decide) tk (ma_cons (me_var (i := 0) rfl (.inl v_law16_0)) (ma_cons (me_var (i := 1) rfl (.inl v_law16_1)) (ma_nil))) (lng_cons (lng_cons lng_nil)) (hg := (g_law16_law_cell _ _ _)))) (ma_cons (me_add (me_int) (me_var (i := 1) rfl (.inl v_law16_1))) (ma_cons (me_add (me_lst (ma_cons (me_int) (ma_cons (me_int) (ma_cons (me_int) (ma_cons (me_int) (ma_cons (me_int) (ma_nil))))))) (me_mul (me_lst (ma_cons (me_int) (ma_nil))) (me_int))) (ma_nil)))) (lng_cons (lng_cons (lng_cons lng_nil))) (hg := (g_law16_law_draws _ _ _))))) (mss_cons (ms_set (i := 3) nd rfl (.inl v_law16_3) (me_mul (mb_tuple B.tuple (ma_cons (me_sl (me_var (i := 2) rfl (.inl v_law16_2)) (mp_some (me_int)) (mp_some (me_add (me_int) (me_ix (me_var (i := 2) rfl (.inl v_law16_2)) (me_int))))) (ma_nil)) (hg := (g_law16_tuple _ _ _))) (me_ix (me_lst (ma_cons (me_int) (ma_cons (me_int) (ma_nil)))) (mb_int B.int (ma_cons (me_cmp (op_eqM hr.units) os_eq (me_var (i := 1) rfl (.inl v_law16_1)) (me_int) (nomark _)) (ma_nil)) (hg := (g_law16_int _ _ _)))))) (mss_cons (ms_set (i := 4) nd rfl (.inl v_law16_4) (me_fz (mf_call h_ltext3 hr (by decide) tk (ma_cons (me_var (i := 3) rfl (.inl v_law16_3)) (ma_nil)) (lng_cons lng_nil) (hg := (g_law16_law_text _ _ _))))) (mss_cons (ms_if (PW.pt (mw_or (mt_cmp (op_neM hr.units) os_ne (me_fz (mf_call h_phexed hr (by decide) tk (ma_cons (me_var (i := 3) rfl (.inl v_law16_3)) (ma_nil)) (lng_cons lng_nil) (hg := (g_law16_hexed _ _ _)))) (me_var (i := 4) rfl (.inl v_law16_4)) (nomark _)) (mw_one_or (mt_cmp (op_neM hr.units) os_ne (me_fz (mf_call h_punhexed hr (by decide) tk (ma_cons (me_var (i := 4) rfl (.inl v_law16_4)) (ma_nil)) (lng_cons lng_nil) (hg := (g_law16_unhexed _ _ _)))) (me_var (i := 3) rfl (.inl v_law16_3)) (nomark _))))) (mss_one (ms_ret (me_bl))) (mss_nil)) (mss_cons (ms_set (i := 5) nd rfl (.inl v_law16_5) (me_fz (mf_call h_lspoilt2 hr (by decide) tk (ma_cons (me_var (i := 4) rfl (.inl v_law16_4)) (ma_cons (me_sl (me_var (i := 2) rfl (.inl v_law16_2)) (mp_some (me_int)) (mp_some (me_int))) (ma_nil))) (lng_cons (lng_cons lng_nil)) (hg := (g_law16_law_spoilt _ _ _))))) (mss_one (ms_for pn rfl (mi_r1 B.range (ma_cons (me_int) (ma_nil)) (hg := (g_law16_range _ _ _))) (mg_name (i := 6) nd rfl (.inl v_law16_6)) (mss_cons (ms_set (i := 7) nd rfl (.inl v_law16_7) (me_fz (mf_call h_lseen2 hr (by decide) tk (ma_cons (me_var (i := 5) rfl (.inl v_law16_5)) (ma_nil)) (lng_cons lng_nil) (hg := (g_law16_law_seen _ _ _))))) (mss_cons (ms_set (i := 8) nd rfl (.inl v_law16_8) (me_fz (mf_call h_lrow hr (by decide) tk (ma_cons (me_var (i := 5) rfl (.inl v_law16_5)) (ma_nil)) (lng_cons lng_nil) (hg := (g_law16_law_row _ _ _))))) (mss_cons (ms_if (mt_cmp (op_neM hr.units) os_ne (me_var (i := 7) rfl (.inl v_law16_7)) (me_tup (ma_cons (me_ix (me_lst (ma_cons (me_str) (ma_cons (me_str) (ma_nil)))) (mb_int B.int (ma_cons (me_cmp op_isN os_isN (me_var (i := 8) rfl (.inl v_law16_8)) (me_non) (nomark _)) (ma_nil)) (hg := (g_law16_int _ _ _)))) (ma_cons (me_var (i := 8) rfl (.inl v_law16_8)) (ma_nil)))) (nomark _)) (mss_one (ms_ret (me_bl))) (mss_nil)) (mss_one (ms_if (PW.pt (mw_and (mt_cmp op_notN os_notN (me_var (i := 8) rfl (.inl v_law16_8)) (me_non) (nomark _)) (mw_one_and (mt_not (mt_val (me_fz (mf_call h_lbytes hr (by decide) tk (ma_cons (me_ix (me_var (i := 7) rfl (.inl v_law16_7)) (me_int)) (ma_cons (mb_len B.len (ma_cons (me_var (i := 8) rfl (.inl v_law16_8)) (ma_nil)) (hg := (g_law16_len _ _ _))) (ma_nil))) (lng_cons (lng_cons lng_nil)) (hg := (g_law16_law_bytes _ _ _))))))))) (mss_one (ms_ret (me_bl))) (mss_nil)))))))))))))) (mss_one (ms_ret (me_bl)))

end
theorem all_mk {l : PySem.W.OpenLaw} {w : World} {K : PySem.W.Frag} {h : Heap} {mg : Str → Option Value} {fa f0 f1 f2 f3 f4 f5 f6 f7 f8 f9 f10 f11 f12 f13 : Addr} (X : K.In h) (G : h.Ns mainGlobals mg) (hfa : mg "law" = some (.ref fa))
    {od0 an0 od1 an1 od2 an2 od3 an3 od4 an4 od5 an5 od6 an6 od7 an7 od8 an8 od9 an9 od10 an10 od11 an11 od12 an12 od13 an13 : Option Addr} {sl0 sl1 sl2 sl3 sl4 sl5 sl6 sl7 sl8 sl9 sl10 sl11 sl12 sl13 : Array (Option Value)} {oc0 kV0 dc0 pm0 cd0 ct0 oc1 kV1 dc1 pm1 cd1 ct1 oc2 kV2 dc2 pm2 cd2 ct2 oc3 kV3 dc3 pm3 cd3 ct3 oc4 kV4 dc4 pm4 cd4 ct4 oc5 kV5 dc5 pm5 cd5 ct5 oc6 kV6 dc6 pm6 cd6 ct6 oc7 kV7 dc7 pm7 cd7 ct7 oc8 kV8 dc8 pm8 cd8 ct8 oc9 kV9 dc9 pm9 cd9 ct9 oc10 kV10 dc10 pm10 cd10 ct10 oc11 kV11 dc11 pm11 cd11 ct11 oc12 kV12 dc12 pm12 cd12 ct12 oc13 kV13 dc13 pm13 cd13 ct13 : Value}
    (a0 : PySem.W.nsIn K mainGlobals "_law_mixed" = some (some (.ref f0))) (l0 : K.lookup f0 = some ⟨oc0, od0, .func (PySem.W.fnOf "_law_mixed" "_law_mixed" (defArgs s_lmixed) (defBody s_lmixed) (defScope s_lmixed) .none kV0 dc0 pm0 an0 cd0 ct0), sl0⟩) (c0 : PySem.W.codeIn K cd0 "_law_mixed" = true) (k0 : PySem.W.keepIn K (.ref f0) = true)
    (a1 : PySem.W.nsIn K mainGlobals "_law_draws" = some (some (.ref f1))) (l1 : K.lookup f1 = some ⟨oc1, od1, .func (PySem.W.fnOf "_law_draws" "_law_draws" (defArgs s_ldraws) (defBody s_ldraws) (defScope s_ldraws) .none kV1 dc1 pm1 an1 cd1 ct1), sl1⟩) (c1 : PySem.W.codeIn K cd1 "_law_draws" = true) (k1 : PySem.W.keepIn K (.ref f1) = true)
    (a2 : PySem.W.nsIn K mainGlobals "_law_byte_text" = some (some (.ref f2))) (l2 : K.lookup f2 = some ⟨oc2, od2, .func (PySem.W.fnOf "_law_byte_text" "_law_byte_text" (defArgs s_lbyte_text) (defBody s_lbyte_text) (defScope s_lbyte_text) .none kV2 dc2 pm2 an2 cd2 ct2), sl2⟩) (c2 : PySem.W.codeIn K cd2 "_law_byte_text" = true) (k2 : PySem.W.keepIn K (.ref f2) = true)
    (a3 : PySem.W.nsIn K mainGlobals "_law_text" = some (some (.ref f3))) (l3 : K.lookup f3 = some ⟨oc3, od3, .func (PySem.W.fnOf "_law_text" "_law_text" (defArgs s_ltext3) (defBody s_ltext3) (defScope s_ltext3) .none kV3 dc3 pm3 an3 cd3 ct3), sl3⟩) (c3 : PySem.W.codeIn K cd3 "_law_text" = true) (k3 : PySem.W.keepIn K (.ref f3) = true)
    (a4 : PySem.W.nsIn K mainGlobals "_law_spoilt" = some (some (.ref f4))) (l4 : K.lookup f4 = some ⟨oc4, od4, .func (PySem.W.fnOf "_law_spoilt" "_law_spoilt" (defArgs s_lspoilt2) (defBody s_lspoilt2) (defScope s_lspoilt2) .none kV4 dc4 pm4 an4 cd4 ct4), sl4⟩) (c4 : PySem.W.codeIn K cd4 "_law_spoilt" = true) (k4 : PySem.W.keepIn K (.ref f4) = true)
    (a5 : PySem.W.nsIn K mainGlobals "_law_cell" = some (some (.ref f5))) (l5 : K.lookup f5 = some ⟨oc5, od5, .func (PySem.W.fnOf "_law_cell" "_law_cell" (defArgs s_lcell) (defBody s_lcell) (defScope s_lcell) .none kV5 dc5 pm5 an5 cd5 ct5), sl5⟩) (c5 : PySem.W.codeIn K cd5 "_law_cell" = true) (k5 : PySem.W.keepIn K (.ref f5) = true)
    (a6 : PySem.W.nsIn K mainGlobals "byte_told" = some (some (.ref f6))) (l6 : K.lookup f6 = some ⟨oc6, od6, .func (PySem.W.fnOf "byte_told" "byte_told" (defArgs s_pbyte_told) (defBody s_pbyte_told) (defScope s_pbyte_told) .none kV6 dc6 pm6 an6 cd6 ct6), sl6⟩) (c6 : PySem.W.codeIn K cd6 "byte_told" = true) (k6 : PySem.W.keepIn K (.ref f6) = true)
    (a7 : PySem.W.nsIn K mainGlobals "unhexed" = some (some (.ref f7))) (l7 : K.lookup f7 = some ⟨oc7, od7, .func (PySem.W.fnOf "unhexed" "unhexed" (defArgs s_punhexed) (defBody s_punhexed) (defScope s_punhexed) .none kV7 dc7 pm7 an7 cd7 ct7), sl7⟩) (c7 : PySem.W.codeIn K cd7 "unhexed" = true) (k7 : PySem.W.keepIn K (.ref f7) = true)
    (a8 : PySem.W.nsIn K mainGlobals "_law_seen" = some (some (.ref f8))) (l8 : K.lookup f8 = some ⟨oc8, od8, .func (PySem.W.fnOf "_law_seen" "_law_seen" (defArgs s_lseen2) (defBody s_lseen2) (defScope s_lseen2) .none kV8 dc8 pm8 an8 cd8 ct8), sl8⟩) (c8 : PySem.W.codeIn K cd8 "_law_seen" = true) (k8 : PySem.W.keepIn K (.ref f8) = true)
    (a9 : PySem.W.nsIn K mainGlobals "_law_row" = some (some (.ref f9))) (l9 : K.lookup f9 = some ⟨oc9, od9, .func (PySem.W.fnOf "_law_row" "_law_row" (defArgs s_lrow) (defBody s_lrow) (defScope s_lrow) .none kV9 dc9 pm9 an9 cd9 ct9), sl9⟩) (c9 : PySem.W.codeIn K cd9 "_law_row" = true) (k9 : PySem.W.keepIn K (.ref f9) = true)
    (a10 : PySem.W.nsIn K mainGlobals "hexed" = some (some (.ref f10))) (l10 : K.lookup f10 = some ⟨oc10, od10, .func (PySem.W.fnOf "hexed" "hexed" (defArgs s_phexed) (defBody s_phexed) (defScope s_phexed) .none kV10 dc10 pm10 an10 cd10 ct10), sl10⟩) (c10 : PySem.W.codeIn K cd10 "hexed" = true) (k10 : PySem.W.keepIn K (.ref f10) = true)
    (a11 : PySem.W.nsIn K mainGlobals "_law_whole" = some (some (.ref f11))) (l11 : K.lookup f11 = some ⟨oc11, od11, .func (PySem.W.fnOf "_law_whole" "_law_whole" (defArgs s_lwhole) (defBody s_lwhole) (defScope s_lwhole) .none kV11 dc11 pm11 an11 cd11 ct11), sl11⟩) (c11 : PySem.W.codeIn K cd11 "_law_whole" = true) (k11 : PySem.W.keepIn K (.ref f11) = true)
    (a12 : PySem.W.nsIn K mainGlobals "_law_bytes" = some (some (.ref f12))) (l12 : K.lookup f12 = some ⟨oc12, od12, .func (PySem.W.fnOf "_law_bytes" "_law_bytes" (defArgs s_lbytes) (defBody s_lbytes) (defScope s_lbytes) .none kV12 dc12 pm12 an12 cd12 ct12), sl12⟩) (c12 : PySem.W.codeIn K cd12 "_law_bytes" = true) (k12 : PySem.W.keepIn K (.ref f12) = true)
    (a13 : PySem.W.nsIn K mainGlobals "law" = some (some (.ref f13))) (l13 : K.lookup f13 = some ⟨oc13, od13, .func (PySem.W.fnOf "law" "law" (defArgs s_law16) (defBody s_law16) (defScope s_law16) .none kV13 dc13 pm13 an13 cd13 ct13), sl13⟩) (c13 : PySem.W.codeIn K cd13 "law" = true) (k13 : PySem.W.keepIn K (.ref f13) = true)
    (z_len : PySem.W.nsIn K mainGlobals "len" = some none)
    (z_range : PySem.W.nsIn K mainGlobals "range" = some none)
    (z_abs : PySem.W.nsIn K mainGlobals "abs" = some none)
    (z_max : PySem.W.nsIn K mainGlobals "max" = some none)
    (z_min : PySem.W.nsIn K mainGlobals "min" = some none)
    (z_int : PySem.W.nsIn K mainGlobals "int" = some none)
    (z_str : PySem.W.nsIn K mainGlobals "str" = some none)
    (z_tuple : PySem.W.nsIn K mainGlobals "tuple" = some none)
    (z_list : PySem.W.nsIn K mainGlobals "list" = some none)
    (z_all : PySem.W.nsIn K mainGlobals "all" = some none)
    (z_any : PySem.W.nsIn K mainGlobals "any" = some none)
    (z_isinstance : PySem.W.nsIn K mainGlobals "isinstance" = some none)
    (z_divmod : PySem.W.nsIn K mainGlobals "divmod" = some none)
    (z_sum : PySem.W.nsIn K mainGlobals "sum" = some none)
    (z_zip : PySem.W.nsIn K mainGlobals "zip" = some none)
    (z_enumerate : PySem.W.nsIn K mainGlobals "enumerate" = some none)
    (z_reversed : PySem.W.nsIn K mainGlobals "reversed" = some none)
    (z_sorted : PySem.W.nsIn K mainGlobals "sorted" = some none)
    (z_dict : PySem.W.nsIn K mainGlobals "dict" = some none)
    (z_set : PySem.W.nsIn K mainGlobals "set" = some none)
    (z_bool : PySem.W.nsIn K mainGlobals "bool" = some none)
    {qt_SIGNS_OF_HALVES : Tok} (qa_SIGNS_OF_HALVES : PySem.W.nsIn K mainGlobals "SIGNS_OF_HALVES" = some (some (.str "0123456789ABCDEF" qt_SIGNS_OF_HALVES)))
    {c_LoftError : Addr} (n_LoftError : PySem.W.nsIn K mainGlobals "LoftError" = some (some (.ref c_LoftError)))
    {c_NoFit : Addr} (n_NoFit : PySem.W.nsIn K mainGlobals "NoFit" = some (some (.ref c_NoFit)))
    {c_NoText : Addr} (n_NoText : PySem.W.nsIn K mainGlobals "NoText" = some (some (.ref c_NoText)))
    {c_Wrong : Addr} (n_Wrong : PySem.W.nsIn K mainGlobals "Wrong" = some (some (.ref c_Wrong)))
    (yxcl0_NoText1 : PySem.W.excIn K c_NoText [.type "ValueError", .type "Exception", .type "BaseException", .type "object"] "ValueError.__new__" = true)
    (yxcl0_NoText2 : PySem.W.keepIn K (.ref c_NoText) = true)
    (yxcl0_NoText3 : PySem.W.subIn K (.ref c_NoText) (.type "BaseException") = some true)
    (yxcl0_NoText4 : PySem.W.typeIn K (.ref c_NoText) = some (.type "type"))
    (yxext_NoText_NoText_True : PySem.W.exmOne K (.ref c_NoText) (.ref c_NoText) = some true)
    (yxxcf_NoText_ : xcB K c_NoText [] = true)
    (yxkit_NoFit_NoText_False : PySem.W.kitOne K (.ref c_NoText) (.ref c_NoFit) = some false)
    (yxkit_Wrong_NoText_False : PySem.W.kitOne K (.ref c_NoText) (.ref c_Wrong) = some false)
    (yxkit_LoftError_NoText_True : PySem.W.kitOne K (.ref c_NoText) (.ref c_LoftError) = some true)
    : ∃ fd : FuncData, (∀ (s : Shared) (u : Value), BindsTo s fd ⟨[u], []⟩ [("_law_script", u)]) ∧ ∀ base : Heap, K.In base → base.Ns mainGlobals mg → FnOk l.prog w K mg base (L2N.CX l.prog w) 8 fa fd ["_law_script"] (spF K mg 1 [] f_law16) := by
  have e := hfa.symm.trans (PySem.W.mg_of X G a13)
  cases e
  have B : Bn mg := ⟨PySem.W.mg_none_of X G z_len, PySem.W.mg_none_of X G z_range, PySem.W.mg_none_of X G z_abs, PySem.W.mg_none_of X G z_max, PySem.W.mg_none_of X G z_min, PySem.W.mg_none_of X G z_int, PySem.W.mg_none_of X G z_str, PySem.W.mg_none_of X G z_tuple, PySem.W.mg_none_of X G z_list, PySem.W.mg_none_of X G z_all, PySem.W.mg_none_of X G z_any, PySem.W.mg_none_of X G z_isinstance, PySem.W.mg_none_of X G z_divmod, PySem.W.mg_none_of X G z_sum, PySem.W.mg_none_of X G z_zip, PySem.W.mg_none_of X G z_enumerate, PySem.W.mg_none_of X G z_reversed, PySem.W.mg_none_of X G z_sorted, PySem.W.mg_none_of X G z_dict, PySem.W.mg_none_of X G z_set, PySem.W.mg_none_of X G z_bool⟩
  have c_SIGNS_OF_HALVES : Cst K mg "SIGNS_OF_HALVES" (.str "0123456789ABCDEF") := cst_str (PySem.W.mg_of X G qa_SIGNS_OF_HALVES)
  have F0 := fun_mk (st := s_lmixed) l0 c0 k0
  have b0 := F0.binds (ps := ["_law_cell_here", "_law_k", "_law_salt"]) fun _ _ _ _ _ _ us hl => match us, hl with | [_, _, _], _ => rfl
  have F1 := fun_mk (st := s_ldraws) l1 c1 k1
  have b1 := F1.binds (ps := ["_law_cell_here", "_law_salt", "_law_widths"]) fun _ _ _ _ _ _ us hl => match us, hl with | [_, _, _], _ => rfl
  have F2 := fun_mk (st := s_lbyte_text) l2 c2 k2
  have b2 := F2.binds (ps := ["_law_byte"]) fun _ _ _ _ _ _ us hl => match us, hl with | [_], _ => rfl
  have F3 := fun_mk (st := s_ltext3) l3 c3 k3
  have b3 := F3.binds (ps := ["_law_row_here"]) fun _ _ _ _ _ _ us hl => match us, hl with | [_], _ => rfl
  have F4 := fun_mk (st := s_lspoilt2) l4 c4 k4
  have b4 := F4.binds (ps := ["_law_text_here", "_law_draws_here"]) fun _ _ _ _ _ _ us hl => match us, hl with | [_, _], _ => rfl
  have F5 := fun_mk (st := s_lcell) l5 c5 k5
  have b5 := F5.binds (ps := ["_law_script", "_law_k"]) fun _ _ _ _ _ _ us hl => match us, hl with | [_, _], _ => rfl
  have F6 := fun_mk (st := s_pbyte_told) l6 c6 k6
  have b6 := F6.binds (ps := ["word"]) fun _ _ _ _ _ _ us hl => match us, hl with | [_], _ => rfl
  have F7 := fun_mk (st := s_punhexed) l7 c7 k7
  have b7 := F7.binds (ps := ["text"]) fun _ _ _ _ _ _ us hl => match us, hl with | [_], _ => rfl
  have F8 := fun_mk (st := s_lseen2) l8 c8 k8
  have b8 := F8.binds (ps := ["_law_text_here"]) fun _ _ _ _ _ _ us hl => match us, hl with | [_], _ => rfl
  have F9 := fun_mk (st := s_lrow) l9 c9 k9
  have b9 := F9.binds (ps := ["_law_text_here"]) fun _ _ _ _ _ _ us hl => match us, hl with | [_], _ => rfl
  have F10 := fun_mk (st := s_phexed) l10 c10 k10
  have b10 := F10.binds (ps := ["row"]) fun _ _ _ _ _ _ us hl => match us, hl with | [_], _ => rfl
  have F11 := fun_mk (st := s_lwhole) l11 c11 k11
  have b11 := F11.binds (ps := ["_law_found"]) fun _ _ _ _ _ _ us hl => match us, hl with | [_], _ => rfl
  have F12 := fun_mk (st := s_lbytes) l12 c12 k12
  have b12 := F12.binds (ps := ["_law_found", "_law_many"]) fun _ _ _ _ _ _ us hl => match us, hl with | [_, _], _ => rfl
  have F13 := fun_mk (st := s_law16) l13 c13 k13
  have b13 := F13.binds (ps := ["_law_script"]) fun _ _ _ _ _ _ us hl => match us, hl with | [_], _ => rfl
  refine ⟨PySem.W.fnOf "law" "law" (defArgs s_law16) (defBody s_law16) (defScope s_law16) .none kV13 dc13 pm13 an13 cd13 ct13, fun s v => .of_eq rfl, fun base _ _ => ?_⟩
  have xcl0_NoText : Cl0 K mg "NoText" := ⟨_, PySem.W.mg_of X G n_NoText, yxcl0_NoText1, yxcl0_NoText2, yxcl0_NoText3, yxcl0_NoText4⟩
  have xext_NoText_NoText_True : ExT K mg "NoText" "NoText" true := ⟨_, _, PySem.W.mg_of X G n_NoText, PySem.W.mg_of X G n_NoText, yxext_NoText_NoText_True⟩
  have xcls_NoText : ∃ D, mg "NoText" = some (.ref D) := ⟨_, PySem.W.mg_of X G n_NoText⟩
  have xxcf_NoText_ : XcF K mg [] "NoText" := ⟨_, PySem.W.mg_of X G n_NoText, yxxcf_NoText_⟩
  have xkit_NoFit_NoText_False : KiT K mg "NoFit" "NoText" false := ⟨_, _, PySem.W.mg_of X G n_NoText, PySem.W.mg_of X G n_NoFit, yxkit_NoFit_NoText_False⟩
  have xcls_NoFit : ∃ D, mg "NoFit" = some (.ref D) := ⟨_, PySem.W.mg_of X G n_NoFit⟩
  have xkit_Wrong_NoText_False : KiT K mg "Wrong" "NoText" false := ⟨_, _, PySem.W.mg_of X G n_NoText, PySem.W.mg_of X G n_Wrong, yxkit_Wrong_NoText_False⟩
  have xcls_Wrong : ∃ D, mg "Wrong" = some (.ref D) := ⟨_, PySem.W.mg_of X G n_Wrong⟩
  have xkit_LoftError_NoText_True : KiT K mg "LoftError" "NoText" true := ⟨_, _, PySem.W.mg_of X G n_NoText, PySem.W.mg_of X G n_LoftError, yxkit_LoftError_NoText_True⟩
  have xcls_LoftError : ∃ D, mg "LoftError" = some (.ref D) := ⟨_, PySem.W.mg_of X G n_LoftError⟩
  have h_lmixed : Fd l.prog w K mg base "_law_mixed" 2 ["_law_cell_here", "_law_k", "_law_salt"] [] f_lmixed := ⟨_, _, ok_lmixed F0 B    , PySem.W.mg_of X G a0, k0, b0⟩
  have h_ldraws : Fd l.prog w K mg base "_law_draws" 4 ["_law_cell_here", "_law_salt", "_law_widths"] [] f_ldraws := ⟨_, _, ok_ldraws F1 B h_lmixed   , PySem.W.mg_of X G a1, k1, b1⟩
  have h_lbyte_text : Fd l.prog w K mg base "_law_byte_text" 2 ["_law_byte"] [] f_lbyte_text := ⟨_, _, ok_lbyte_text F2 B    , PySem.W.mg_of X G a2, k2, b2⟩
  have h_ltext3 : Fd l.prog w K mg base "_law_text" 4 ["_law_row_here"] [] f_ltext3 := ⟨_, _, ok_ltext3 F3 B h_lbyte_text   , PySem.W.mg_of X G a3, k3, b3⟩
  have h_lspoilt2 : Fd l.prog w K mg base "_law_spoilt" 2 ["_law_text_here", "_law_draws_here"] [] f_lspoilt2 := ⟨_, _, ok_lspoilt2 F4 B    , PySem.W.mg_of X G a4, k4, b4⟩
  have h_lcell : Fd l.prog w K mg base "_law_cell" 2 ["_law_script", "_law_k"] [] f_lcell := ⟨_, _, ok_lcell F5 B    , PySem.W.mg_of X G a5, k5, b5⟩
  have h_pbyte_told : Fd l.prog w K mg base "byte_told" 2 ["word"] [] f_pbyte_told := ⟨_, _, ok_pbyte_told F6 B   xcl0_NoText c_SIGNS_OF_HALVES, PySem.W.mg_of X G a6, k6, b6⟩
  have h_punhexed : Fd l.prog w K mg base "unhexed" 4 ["text"] [] f_punhexed := ⟨_, _, ok_punhexed F7 B h_pbyte_told   , PySem.W.mg_of X G a7, k7, b7⟩
  have h_lseen2 : Fd l.prog w K mg base "_law_seen" 6 ["_law_text_here"] [] f_lseen2 := ⟨_, _, ok_lseen2 F8 B h_punhexed  xext_NoText_NoText_True xcls_NoText xxcf_NoText_ xkit_NoFit_NoText_False xcls_NoFit xkit_Wrong_NoText_False xcls_Wrong xkit_LoftError_NoText_True xcls_LoftError , PySem.W.mg_of X G a8, k8, b8⟩
  have h_lrow : Fd l.prog w K mg base "_law_row" 2 ["_law_text_here"] [] f_lrow := ⟨_, _, ok_lrow F9 B    , PySem.W.mg_of X G a9, k9, b9⟩
  have h_phexed : Fd l.prog w K mg base "hexed" 2 ["row"] [] f_phexed := ⟨_, _, ok_phexed F10 B    c_SIGNS_OF_HALVES, PySem.W.mg_of X G a10, k10, b10⟩
  have h_lwhole : Fd l.prog w K mg base "_law_whole" 2 ["_law_found"] [] f_lwhole := ⟨_, _, ok_lwhole F11 B    , PySem.W.mg_of X G a11, k11, b11⟩
  have h_lbytes : Fd l.prog w K mg base "_law_bytes" 4 ["_law_found", "_law_many"] [] f_lbytes := ⟨_, _, ok_lbytes F12 B h_lwhole   , PySem.W.mg_of X G a12, k12, b12⟩
  exact ok_law16 F13 B h_ldraws h_lcell h_ltext3 h_phexed h_punhexed h_lspoilt2 h_lseen2 h_lrow h_lbytes   
end Tm
open PySem PySem.W PyProof.Rows in
set_option maxRecDepth 100000 in
set_option maxHeartbeats 0 in
theorem PySem.Challenge.cw_tensloft_k09_bytes_as_text_holds : PySem.Challenge.rw_tensloft_k09_bytes_as_text.Holds := by
  w_on; o_law; k_head; (case hw => w_witness2)
  k_fill
  refine Tm.walk_law (l := PySem.Challenge.rw_tensloft_k09_bytes_as_text) (f := Tm.f_law16) (x := "_law_script") (k := 8) rfl rfl ⟨rfl, by decide, by decide⟩ (fun w h Y => PySem.W.kIn_of Y) Tm.law_true ?F
  case F =>
    intro w mg fa h KX G hmg
    refine' Tm.all_mk KX G hmg ?a0 ?l0 ?c0 ?k0 ?a1 ?l1 ?c1 ?k1 ?a2 ?l2 ?c2 ?k2 ?a3 ?l3 ?c3 ?k3 ?a4 ?l4 ?c4 ?k4 ?a5 ?l5 ?c5 ?k5 ?a6 ?l6 ?c6 ?k6 ?a7 ?l7 ?c7 ?k7 ?a8 ?l8 ?c8 ?k8 ?a9 ?l9 ?c9 ?k9 ?a10 ?l10 ?c10 ?k10 ?a11 ?l11 ?c11 ?k11 ?a12 ?l12 ?c12 ?k12 ?a13 ?l13 ?c13 ?k13 ?z_len ?z_range ?z_abs ?z_max ?z_min ?z_int ?z_str ?z_tuple ?z_list ?z_all ?z_any ?z_isinstance ?z_divmod ?z_sum ?z_zip ?z_enumerate ?z_reversed ?z_sorted ?z_dict ?z_set ?z_bool ?qa_SIGNS_OF_HALVES ?n_LoftError ?n_NoFit ?n_NoText ?n_Wrong ?yxcl0_NoText1 ?yxcl0_NoText2 ?yxcl0_NoText3 ?yxcl0_NoText4 ?yxext_NoText_NoText_True ?yxxcf_NoText_ ?yxkit_NoFit_NoText_False ?yxkit_Wrong_NoText_False ?yxkit_LoftError_NoText_True
    (case a0 => k_is)
    (case l0 => k_is)
    (case c0 => k_is)
    (case k0 => k_is)
    (case a1 => k_is)
    (case l1 => k_is)
    (case c1 => k_is)
    (case k1 => k_is)
    (case a2 => k_is)
    (case l2 => k_is)
    (case c2 => k_is)
    (case k2 => k_is)
    (case a3 => k_is)
    (case l3 => k_is)
    (case c3 => k_is)
    (case k3 => k_is)
    (case a4 => k_is)
    (case l4 => k_is)
    (case c4 => k_is)
    (case k4 => k_is)
    (case a5 => k_is)
    (case l5 => k_is)
    (case c5 => k_is)
    (case k5 => k_is)
    (case a6 => k_is)
    (case l6 => k_is)
    (case c6 => k_is)
    (case k6 => k_is)
    (case a7 => k_is)
    (case l7 => k_is)
    (case c7 => k_is)
    (case k7 => k_is)
    (case a8 => k_is)
    (case l8 => k_is)
    (case c8 => k_is)
    (case k8 => k_is)
    (case a9 => k_is)
    (case l9 => k_is)
    (case c9 => k_is)
    (case k9 => k_is)
    (case a10 => k_is)
    (case l10 => k_is)
    (case c10 => k_is)
    (case k10 => k_is)
    (case a11 => k_is)
    (case l11 => k_is)
    (case c11 => k_is)
    (case k11 => k_is)
    (case a12 => k_is)
    (case l12 => k_is)
    (case c12 => k_is)
    (case k12 => k_is)
    (case a13 => k_is)
    (case l13 => k_is)
    (case c13 => k_is)
    (case k13 => k_is)
    (case z_len => k_is)
    (case z_range => k_is)
    (case z_abs => k_is)
    (case z_max => k_is)
    (case z_min => k_is)
    (case z_int => k_is)
    (case z_str => k_is)
    (case z_tuple => k_is)
    (case z_list => k_is)
    (case z_all => k_is)
    (case z_any => k_is)
    (case z_isinstance => k_is)
    (case z_divmod => k_is)
    (case z_sum => k_is)
    (case z_zip => k_is)
    (case z_enumerate => k_is)
    (case z_reversed => k_is)
    (case z_sorted => k_is)
    (case z_dict => k_is)
    (case z_set => k_is)
    (case z_bool => k_is)
    (case qa_SIGNS_OF_HALVES => k_is)
    (case n_LoftError => k_is)
    (case n_NoFit => k_is)
    (case n_NoText => k_is)
    (case n_Wrong => k_is)
    (case yxcl0_NoText1 => k_exc)
    (case yxcl0_NoText2 => k_is)
    (case yxcl0_NoText3 => k_is)
    (case yxcl0_NoText4 => k_is)
    (case yxext_NoText_NoText_True => first | rfl | decide +kernel)
    (case yxxcf_NoText_ => first | rfl | decide +kernel)
    (case yxkit_NoFit_NoText_False => first | rfl | decide +kernel)
    (case yxkit_Wrong_NoText_False => first | rfl | decide +kernel)
    (case yxkit_LoftError_NoText_True => first | rfl | decide +kernel)
