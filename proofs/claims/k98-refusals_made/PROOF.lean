import PyProof.Rows.All
import Wide.All
import OpenK.AllK
import Wide.FinOn
import HandS.ForMost
import HandS.ForExc
import HandS.Wide
import HandS.Evl
import HandS.TupAny
import HandS.TupMul
import HandS.NoneIn
import HandS.Zip
import HandS.IsInst
import HandS.Text
import HandS.StrMore
import HandS.Comp
import HandS.Style
import KE.KeyNested
import PyProof.StrOps2
import KE.GoesMore
import KE.GoesEnum
import KE.GoesZip
import HandS.ExcCtx
import HandS.ExcOwn
import HandS.ExcInit
import HandS.ExcIs
import HandS.ExcField
import HandS.Replace
import HandS.CallLocal
import HandS.WideBits
import HandS.Conv
import KE.GoesEnumKw
import PyProof.Rows.CallKwBuiltin
import HandS.HotCalls
import HandS.More
import HandS.RaiseMore
import HandS.TupLe
import HandS.Flt
import HandS.TupLen
import HandS.FStr
import HandS.Flow
import HandS.WordsDict
import HandS.Strs
import PyProof.Rows.SortStr
import PyProof.Rows.StrMeet
import KE.GoesComp
import PySem.Challenge.RW_tensloft_k98_refusals_made
set_option Elab.async false
set_option linter.all false
set_option maxRecDepth 100000
set_option maxHeartbeats 2000000
namespace Tm
open PySem L2
inductive MV where
  | non | bl (b : Bool) | int (i : Int) | str (x : Str)
  | tup (xs : List MV) | lst (xs : List MV) | own (xs : List MV)
  | raw (v : V) | scr (ns : List Int)
  | fnc (x : Str)
  | obj (C : Str) (fs : List (Str × MV))
  | dct (ks : List Key) (xs : List MV)
  | dow (ks : List Key) (xs : List MV)
  | dot (ks : List MV) (xs : List MV)
  | ols (os : List MV)
  | exn (C : Str) (fs : List (Str × MV))
instance : Inhabited MV := ⟨.non⟩
abbrev Env := List (Option MV)
structure MX where
  cls : Str
  fs : List (Str × MV)
inductive Res (α : Type) where
  | ok (a : α) | exc (e : MX) (ρ : Env) | stuck
inductive Fl where
  | nx | br | ct | rt (x : MV)
open Evl (Ex ex_rd ex_l ex_t)
theorem _root_.Evl.Ex.back {H H' : Hp} {p : Addr} (e : Ex H H') (h : H' p = none) : H p = none := Evl.fresh_back e h
theorem _root_.Evl.Ex.both {H H' : Hp} {p : Addr} {o : HO} (e : Ex H H') (h : H' p = none) : Ex (upd H p o) (upd H' p o) := fun a u ha => by
  by_cases hp : a = p
  · subst hp; rw [upd_same] at ha ⊢; exact ha
  · rw [upd_ne hp] at ha ⊢; exact e a u ha
theorem _root_.Evl.Ex.updL {H H' : Hp} {p : Addr} {o : HO} (e : Ex H H') (h : H' p = some o) : Ex (upd H p o) H' := fun a u ha => by
  by_cases hp : a = p
  · subst hp; rw [upd_same] at ha; cases ha; exact h
  · rw [upd_ne hp] at ha; exact e a u ha
def XAt (a C : Addr) (d : Option Addr) (h : Heap) : Prop := ∃ oe vs, h.get? a = some oe ∧ oe.cls = .ref C ∧ oe.dict = d ∧ oe.data = .fields vs
def XdAt (a : Addr) (fs : List (Str × V)) (h : Heap) : Prop := ∃ mA, h.Ns1 a mA ∧ ∀ f, RelO (fs.lookup f) (mA f)
def plV : MV → V
  | .int i => .int i
  | .str x => .str x
  | .bl b => .bl b
  | _ => .non
def ExnAt (K : PySem.W.Frag) (H : Hp) (C : Str) (fs : List (Str × MV)) (v : V) : Prop := ∃ a CA d, v = .ref a ∧ PySem.W.nsIn K mainGlobals C = some (some (.ref CA)) ∧ H a = some (.ext (XAt a CA d)) ∧
  ((fs = [] ∧ d = none) ∨ ∃ dx, d = some dx ∧ H dx = some (.ext (XdAt dx (fs.map fun p => (p.1, plV p.2)))))
theorem ExnAt.mono {K : PySem.W.Frag} {H H' : Hp} (e : Ex H H') {C : Str} {fs : List (Str × MV)} {v : V} (h : ExnAt K H C fs v) : ExnAt K H' C fs v := by
  obtain ⟨a, CA, d, h1, h2, h3, h4⟩ := h
  refine ⟨a, CA, d, h1, h2, e _ _ h3, ?_⟩
  rcases h4 with h4 | ⟨dx, h5, h6⟩
  · exact .inl h4
  · exact .inr ⟨dx, h5, e _ _ h6⟩
mutual
def RV (K : PySem.W.Frag) (H : Hp) : MV → V → Prop
  | .non, v => v = .non
  | .bl b, v => v = .bl b
  | .int i, v => v = .int i
  | .str x, v => v = .str x
  | .tup xs, v => ∃ a vs, v = .ref a ∧ SqT K H a vs ∧ RVs K H xs vs
  | .lst xs, v => ∃ a vs, v = .ref a ∧ H a = some (.lst vs) ∧ RVs K H xs vs
  | .own _, _ => False
  | .raw w, v => v = w
  | .scr ns, v => ∃ a, v = .ref a ∧ SqL K H a (ns.map V.int)
  | .fnc x, v => ∃ a, v = .ref a ∧ PySem.W.nsIn K mainGlobals x = some (some (.ref a))
  | .obj _ _, _ => False
  | .dct ks xs, v => ∃ a vs, v = .ref a ∧ H a = some (.dK (ks.zip vs)) ∧ ks.length = xs.length ∧ RVs K H xs vs
  | .dow _ _, _ => False
  | .dot _ _, _ => False
  | .ols _, _ => False
  | .exn C fs, v => ExnAt K H C fs v
def RVs (K : PySem.W.Frag) (H : Hp) : List MV → List V → Prop
  | [], vs => vs = []
  | x :: xs, vs => ∃ v r, vs = v :: r ∧ RV K H x v ∧ RVs K H xs r
end
mutual
theorem RV.mono {K : PySem.W.Frag} {H H' : Hp} (e : Ex H H') : ∀ (x : MV) (v : V), RV K H x v → RV K H' x v
  | .non, v, h => by unfold RV at h ⊢; exact h
  | .bl b, v, h => by unfold RV at h ⊢; exact h
  | .int i, v, h => by unfold RV at h ⊢; exact h
  | .str x, v, h => by unfold RV at h ⊢; exact h
  | .tup xs, v, h => by
    unfold RV at h ⊢
    obtain ⟨a, vs, e1, e2, e3⟩ := h
    exact ⟨a, vs, e1, ex_t e e2, RVs.mono e xs vs e3⟩
  | .lst xs, v, h => by
    unfold RV at h ⊢
    obtain ⟨a, vs, e1, e2, e3⟩ := h
    exact ⟨a, vs, e1, e _ _ e2, RVs.mono e xs vs e3⟩
  | .own xs, v, h => by unfold RV at h; exact h.elim
  | .raw w, v, h => by unfold RV at h ⊢; exact h
  | .scr ns, v, h => by
    unfold RV at h ⊢
    obtain ⟨a, e1, e2⟩ := h
    exact ⟨a, e1, ex_l e e2⟩
  | .fnc x, v, h => by unfold RV at h ⊢; exact h
  | .obj C fs, v, h => by unfold RV at h; exact h.elim
  | .dct ks xs, v, h => by
    unfold RV at h ⊢
    obtain ⟨a, vs, e1, e2, e3, e4⟩ := h
    exact ⟨a, vs, e1, e _ _ e2, e3, RVs.mono e xs vs e4⟩
  | .dow ks xs, v, h => by unfold RV at h; exact h.elim
  | .dot ks xs, v, h => by unfold RV at h; exact h.elim
  | .ols os, v, h => by unfold RV at h; exact h.elim
  | .exn C fs, v, h => by unfold RV at h ⊢; exact h.mono e
theorem RVs.mono {K : PySem.W.Frag} {H H' : Hp} (e : Ex H H') : ∀ (xs : List MV) (vs : List V), RVs K H xs vs → RVs K H' xs vs
  | [], vs, h => by unfold RVs at h ⊢; exact h
  | x :: xs, vs, h => by
    unfold RVs at h ⊢
    obtain ⟨v, r, e1, e2, e3⟩ := h
    exact ⟨v, r, e1, RV.mono e x v e2, RVs.mono e xs r e3⟩
end
section
variable {K : PySem.W.Frag} {H : Hp}
theorem RV.int {i : Int} {v : V} : RV K H (.int i) v ↔ v = .int i := by unfold RV; rfl
theorem RV.bl {i : Bool} {v : V} : RV K H (.bl i) v ↔ v = .bl i := by unfold RV; rfl
theorem RV.str {i : Str} {v : V} : RV K H (.str i) v ↔ v = .str i := by unfold RV; rfl
theorem RV.non {v : V} : RV K H .non v ↔ v = .non := by unfold RV; rfl
theorem RV.raw {w v : V} : RV K H (.raw w) v ↔ v = w := by unfold RV; rfl
theorem RV.tup {xs : List MV} {v : V} : RV K H (.tup xs) v ↔ ∃ a vs, v = .ref a ∧ SqT K H a vs ∧ RVs K H xs vs := by
  constructor <;> intro h <;> (unfold RV at *; exact h)
theorem RV.lst {xs : List MV} {v : V} : RV K H (.lst xs) v ↔ ∃ a vs, v = .ref a ∧ H a = some (.lst vs) ∧ RVs K H xs vs := by
  constructor <;> intro h <;> (unfold RV at *; exact h)
theorem RV.dct {ks : List Key} {xs : List MV} {v : V} : RV K H (.dct ks xs) v ↔ ∃ a vs, v = .ref a ∧ H a = some (.dK (ks.zip vs)) ∧ ks.length = xs.length ∧ RVs K H xs vs := by
  constructor <;> intro h <;> (unfold RV at *; exact h)
theorem RV.exn {C : Str} {fs : List (Str × MV)} {v : V} : RV K H (.exn C fs) v ↔ ExnAt K H C fs v := by
  constructor <;> intro h <;> (unfold RV at *; exact h)
theorem RV.scr {ns : List Int} {v : V} : RV K H (.scr ns) v ↔ ∃ a, v = .ref a ∧ SqL K H a (ns.map V.int) := by
  constructor <;> intro h <;> (unfold RV at *; exact h)
theorem RV.fnc {x : Str} {v : V} : RV K H (.fnc x) v ↔ ∃ a, v = .ref a ∧ PySem.W.nsIn K mainGlobals x = some (some (.ref a)) := by
  constructor <;> intro h <;> (unfold RV at *; exact h)
theorem RVs.nil {vs : List V} : RVs K H [] vs ↔ vs = [] := by unfold RVs; rfl
theorem RVs.cons {x : MV} {xs : List MV} {vs : List V} : RVs K H (x :: xs) vs ↔ ∃ v r, vs = v :: r ∧ RV K H x v ∧ RVs K H xs r := by
  rw [RVs]
theorem RVs.length : ∀ {xs : List MV} {vs : List V}, RVs K H xs vs → vs.length = xs.length
  | [], vs, h => by rw [RVs.nil] at h; subst h; rfl
  | x :: xs, vs, h => by
    rw [RVs.cons] at h
    obtain ⟨v, r, rfl, _, h⟩ := h
    simp [RVs.length h]
theorem RVs.get : ∀ {xs : List MV} {vs : List V} {i : Nat} {x : MV}, RVs K H xs vs → xs[i]? = some x → ∃ v, vs[i]? = some v ∧ RV K H x v
  | [], _, i, x, _, e => by simp at e
  | y :: xs, vs, 0, x, h, e => by
    rw [RVs.cons] at h
    obtain ⟨v, r, rfl, h1, _⟩ := h
    simp at e; subst e; exact ⟨v, rfl, h1⟩
  | y :: xs, vs, i + 1, x, h, e => by
    rw [RVs.cons] at h
    obtain ⟨v, r, rfl, _, h⟩ := h
    obtain ⟨u, h1, h2⟩ := RVs.get (i := i) (x := x) h (by simpa using e)
    exact ⟨u, by simpa using h1, h2⟩
theorem RVs.append : ∀ {xs ys : List MV} {vs ws : List V}, RVs K H xs vs → RVs K H ys ws → RVs K H (xs ++ ys) (vs ++ ws)
  | [], ys, vs, ws, h, h2 => by rw [RVs.nil] at h; subst h; exact h2
  | x :: xs, ys, vs, ws, h, h2 => by
    rw [RVs.cons] at h
    obtain ⟨v, r, rfl, h1, h⟩ := h
    show RVs K H (x :: (xs ++ ys)) (v :: (r ++ ws))
    rw [RVs.cons]
    exact ⟨v, r ++ ws, rfl, h1, RVs.append h h2⟩
theorem RVs.take : ∀ {xs : List MV} {vs : List V} (n : Nat), RVs K H xs vs → RVs K H (xs.take n) (vs.take n)
  | _, _, 0, _ => by simp [RVs]
  | [], vs, n + 1, h => by rw [RVs.nil] at h; subst h; simp [RVs]
  | x :: xs, vs, n + 1, h => by
    rw [RVs.cons] at h
    obtain ⟨v, r, rfl, h1, h⟩ := h
    show RVs K H (x :: xs.take n) (v :: r.take n)
    rw [RVs.cons]
    exact ⟨v, _, rfl, h1, RVs.take n h⟩
theorem RVs.drop : ∀ {xs : List MV} {vs : List V} (n : Nat), RVs K H xs vs → RVs K H (xs.drop n) (vs.drop n)
  | _, _, 0, h => h
  | [], vs, n + 1, h => by rw [RVs.nil] at h; subst h; simp [RVs]
  | x :: xs, vs, n + 1, h => by
    rw [RVs.cons] at h
    obtain ⟨v, r, rfl, h1, h⟩ := h
    exact RVs.drop n h
theorem RVs.set : ∀ {xs : List MV} {vs : List V} (i : Nat) {x : MV} {v : V}, RVs K H xs vs → RV K H x v → RVs K H (xs.set i x) (vs.set i v)
  | [], vs, i, x, v, h, _ => by rw [RVs.nil] at h; subst h; simp [RVs]
  | y :: xs, vs, 0, x, v, h, h2 => by
    rw [RVs.cons] at h
    obtain ⟨u, r, rfl, h1, h⟩ := h
    show RVs K H (x :: xs) (v :: r)
    rw [RVs.cons]; exact ⟨v, r, rfl, h2, h⟩
  | y :: xs, vs, i + 1, x, v, h, h2 => by
    rw [RVs.cons] at h
    obtain ⟨u, r, rfl, h1, h⟩ := h
    show RVs K H (y :: xs.set i x) (u :: r.set i v)
    rw [RVs.cons]; exact ⟨u, _, rfl, h1, RVs.set i h h2⟩
theorem RVs.ints : ∀ {ns : List Int} {vs : List V}, RVs K H (ns.map MV.int) vs ↔ vs = ns.map V.int
  | [], vs => RVs.nil
  | n :: ns, vs => by
    rw [List.map_cons, RVs.cons]
    constructor
    · rintro ⟨v, r, rfl, h1, h2⟩
      rw [RV.int.mp h1, RVs.ints.mp h2]; rfl
    · rintro rfl
      exact ⟨_, _, rfl, RV.int.mpr rfl, RVs.ints.mpr rfl⟩
end
mutual
def nkI : MV → Option NestedKey
  | .int i => some (.num i)
  | .tup xs => (nkIs xs).map .tup
  | _ => none
def nkIs : List MV → Option (List NestedKey)
  | [] => some []
  | x :: xs => match nkI x, nkIs xs with
    | some k, some ks => some (k :: ks)
    | _, _ => none
end
mutual
def nh : NestedKey → Int
  | .none => reduceHash 0xFCA86420
  | .num i => hashInt i
  | .text _ => 0
  | .tup ks => reduceHash (Builtin.Tuple.tupleHashOf (nhs ks))
def nhs : List NestedKey → List Int
  | [] => []
  | k :: ks => nh k :: nhs ks
end
def nEntry (x : NestedKey × Addr × Value) : DictEntry := ⟨nh x.1, .ref x.2.1, x.2.2⟩
def nDict (p : Addr) (kvs : List (NestedKey × Addr × V)) (h : Heap) : Prop :=
  kvs.length ≤ sizeLine ∧ (p == sysModules) = false ∧ ∃ xs : List (NestedKey × Addr × Value), Paired (fun (a : NestedKey × Addr × V) (b : NestedKey × Addr × Value) => a.1 = b.1 ∧ a.2.1 = b.2.1 ∧ RelV a.2.2 b.2.2) kvs xs ∧
    ∃ o es ep, h.get? p = some o ∧ o.ExactDict ∧ o.data = .dict es ep ∧ es.toList = xs.map nEntry ∧ (xs.map (·.1)).Nodup
def KN (K : PySem.W.Frag) (Hk : Hp) : List MV → List MV → List (NestedKey × Addr × V) → Prop
  | [], [], l => l = []
  | k :: ks, x :: xs, l => ∃ nk a v r, l = (nk, a, v) :: r ∧ nkI k = some nk ∧ nk.depth ≤ 8 ∧ RV K Hk k (.ref a) ∧ RV K Hk x v ∧ KN K Hk ks xs r
  | _, _, _ => False
theorem KN.mono {K : PySem.W.Frag} {H H' : Hp} (e : Ex H H') : ∀ {ks xs : List MV} {l : List (NestedKey × Addr × V)}, KN K H ks xs l → KN K H' ks xs l
  | [], [], _, h => h
  | [], _ :: _, _, h => h.elim
  | _ :: _, [], _, h => h.elim
  | k :: ks, x :: xs, _, h => by
    obtain ⟨nk, a, v, r, h1, h2, h3, h4, h5, h6⟩ := h
    exact ⟨nk, a, v, r, h1, h2, h3, RV.mono e _ _ h4, RV.mono e _ _ h5, KN.mono e h6⟩
def OF (K : PySem.W.Frag) (Hk H : Hp) : MV → V → List Addr → Prop
  | .own xs, v, A => ∃ p vs, v = .ref p ∧ A = [p] ∧ H p = some (.lst vs) ∧ RVs K Hk xs vs
  | .dow ks xs, v, A => ∃ p vs, v = .ref p ∧ A = [p] ∧ H p = some (.dK (ks.zip vs)) ∧ ks.length = xs.length ∧ RVs K Hk xs vs
  | .dot ks xs, v, A => ∃ p l, v = .ref p ∧ A = [p] ∧ H p = some (.ext (nDict p l)) ∧ KN K Hk ks xs l
  | x, v, A => A = [] ∧ RV K Hk x v
def OFs (K : PySem.W.Frag) (Hk H : Hp) : List (Str × MV) → List (Str × V) → List Addr → Prop
  | [], vs, A => vs = [] ∧ A = []
  | (n, x) :: xs, vs, A => ∃ v r B C, vs = (n, v) :: r ∧ A = B ++ C ∧ OF K Hk H x v B ∧ OFs K Hk H xs r C
def OB (K : PySem.W.Frag) (Hk H : Hp) : MV → V → List Addr → Prop
  | .obj C fs, v, A => ∃ p CA dx vfs B, v = .ref p ∧ A = p :: B ∧ PySem.W.nsIn K mainGlobals C = some (some (.ref CA)) ∧ H p = some (.ins CA dx vfs) ∧ OFs K Hk H fs vfs B ∧ (p :: B).Nodup
  | _, _, _ => False
def OBs (K : PySem.W.Frag) (Hk H : Hp) : List MV → List V → List Addr → Prop
  | [], vs, A => vs = [] ∧ A = []
  | x :: xs, vs, A => ∃ v r B C, vs = v :: r ∧ A = B ++ C ∧ OB K Hk H x v B ∧ OBs K Hk H xs r C
def OV (K : PySem.W.Frag) (Hk H : Hp) : MV → V → List Addr → Prop
  | .ols os, v, A => ∃ p vs B, v = .ref p ∧ A = p :: B ∧ H p = some (.lst vs) ∧ OBs K Hk H os vs B ∧ (p :: B).Nodup
  | .obj C fs, v, A => ∃ p CA dx vfs B, v = .ref p ∧ A = p :: B ∧ PySem.W.nsIn K mainGlobals C = some (some (.ref CA)) ∧ H p = some (.ins CA dx vfs) ∧ OFs K Hk H fs vfs B ∧ (p :: B).Nodup
  | x, v, A => OF K Hk H x v A
def MV.per : MV → Bool
  | .own _ => false
  | .obj _ _ => false
  | .dow _ _ => false
  | .dot _ _ => false
  | .ols _ => false
  | _ => true
theorem OF.per {K : PySem.W.Frag} {Hk H : Hp} {x : MV} {v : V} {A : List Addr} (h : x.per = true) : OF K Hk H x v A ↔ A = [] ∧ RV K Hk x v := by
  cases x <;> first | (simp [MV.per] at h; done) | (unfold OF; rfl)
theorem OV.per {K : PySem.W.Frag} {Hk H : Hp} {x : MV} {v : V} {A : List Addr} (h : x.per = true) : OV K Hk H x v A ↔ A = [] ∧ RV K Hk x v := by
  cases x <;> first | (simp [MV.per] at h; done) | (unfold OV OF; rfl)
theorem OV.own {K : PySem.W.Frag} {Hk H : Hp} {xs : List MV} {v : V} {A : List Addr} : OV K Hk H (.own xs) v A ↔ ∃ p vs, v = .ref p ∧ A = [p] ∧ H p = some (.lst vs) ∧ RVs K Hk xs vs := by
  unfold OV OF; rfl
theorem RV.isper {K : PySem.W.Frag} {H : Hp} {x : MV} {v : V} (h : RV K H x v) : x.per = true := by
  cases x <;> first | rfl | (unfold RV at h; exact h.elim)
theorem RV.ov {K : PySem.W.Frag} {Hk H : Hp} {x : MV} {v : V} (h : RV K Hk x v) : OV K Hk H x v [] := (OV.per h.isper).mpr ⟨rfl, h⟩
theorem OF.move {K : PySem.W.Frag} {Hk Hk' H H' : Hp} {x : MV} {v : V} {A : List Addr} (h : OF K Hk H x v A) (e : Ex Hk Hk') (k : ∀ a ∈ A, ∀ o, H a = some o → H' a = some o) : OF K Hk' H' x v A := by
  cases x with
  | own xs =>
    unfold OF at h ⊢
    obtain ⟨p, vs, e1, e2, e3, e4⟩ := h
    exact ⟨p, vs, e1, e2, k p (by rw [e2]; simp) _ e3, e4.mono e⟩
  | dow ks xs =>
    unfold OF at h ⊢
    obtain ⟨p, vs, e1, e2, e3, e5, e4⟩ := h
    exact ⟨p, vs, e1, e2, k p (by rw [e2]; simp) _ e3, e5, e4.mono e⟩
  | dot ks xs =>
    unfold OF at h ⊢
    obtain ⟨p, l, e1, e2, e3, e4⟩ := h
    exact ⟨p, l, e1, e2, k p (by rw [e2]; simp) _ e3, e4.mono e⟩
  | obj C fs => exact (show False by unfold OF at h; unfold RV at h; exact h.2).elim
  | _ =>
    unfold OF at h ⊢
    exact ⟨h.1, RV.mono e _ _ h.2⟩
theorem OFs.move {K : PySem.W.Frag} {Hk Hk' H H' : Hp} : ∀ {fs : List (Str × MV)} {vs : List (Str × V)} {A : List Addr}, OFs K Hk H fs vs A → Ex Hk Hk' → (∀ a ∈ A, ∀ o, H a = some o → H' a = some o) → OFs K Hk' H' fs vs A
  | [], _, _, h, _, _ => h
  | (n, x) :: fs, vs, A, h, e, k => by
    obtain ⟨v, r, B, C, e1, e2, h1, h2⟩ := h
    refine ⟨v, r, B, C, e1, e2, h1.move e fun a ha => k a (by rw [e2]; exact List.mem_append_left _ ha), OFs.move h2 e fun a ha => k a (by rw [e2]; exact List.mem_append_right _ ha)⟩
theorem OB.move {K : PySem.W.Frag} {Hk Hk' H H' : Hp} {x : MV} {v : V} {A : List Addr} (h : OB K Hk H x v A) (e : Ex Hk Hk') (k : ∀ a ∈ A, ∀ o, H a = some o → H' a = some o) : OB K Hk' H' x v A := by
  cases x with
  | obj C fs =>
    unfold OB at h ⊢
    obtain ⟨p, CA, dx, vfs, B, e1, e2, e0, e3, e4, e5⟩ := h
    exact ⟨p, CA, dx, vfs, B, e1, e2, e0, k p (by rw [e2]; simp) _ e3, OFs.move e4 e fun a ha => k a (by rw [e2]; exact List.mem_cons_of_mem _ ha), e5⟩
  | _ => exact (show False by unfold OB at h; exact h).elim
theorem OBs.move {K : PySem.W.Frag} {Hk Hk' H H' : Hp} : ∀ {xs : List MV} {vs : List V} {A : List Addr}, OBs K Hk H xs vs A → Ex Hk Hk' → (∀ a ∈ A, ∀ o, H a = some o → H' a = some o) → OBs K Hk' H' xs vs A
  | [], _, _, h, _, _ => h
  | x :: xs, vs, A, h, e, k => by
    obtain ⟨v, r, B, C, e1, e2, h1, h2⟩ := h
    exact ⟨v, r, B, C, e1, e2, h1.move e fun a ha => k a (by rw [e2]; exact List.mem_append_left _ ha), OBs.move h2 e fun a ha => k a (by rw [e2]; exact List.mem_append_right _ ha)⟩
theorem OV.move {K : PySem.W.Frag} {Hk Hk' H H' : Hp} {x : MV} {v : V} {A : List Addr} (h : OV K Hk H x v A) (e : Ex Hk Hk') (k : ∀ a ∈ A, ∀ o, H a = some o → H' a = some o) : OV K Hk' H' x v A := by
  cases x with
  | obj C fs =>
    unfold OV at h ⊢
    obtain ⟨p, CA, dx, vfs, B, e1, e2, e0, e3, e4, e5⟩ := h
    exact ⟨p, CA, dx, vfs, B, e1, e2, e0, k p (by rw [e2]; simp) _ e3, OFs.move e4 e fun a ha => k a (by rw [e2]; exact List.mem_cons_of_mem _ ha), e5⟩
  | ols os =>
    unfold OV at h ⊢
    obtain ⟨p, vs, B, e1, e2, e3, e4, e5⟩ := h
    exact ⟨p, vs, B, e1, e2, k p (by rw [e2]; simp) _ e3, e4.move e fun a ha => k a (by rw [e2]; exact List.mem_cons_of_mem _ ha), e5⟩
  | _ => (unfold OV at h ⊢; exact OF.move h e k)
theorem OF.there {K : PySem.W.Frag} {Hk H : Hp} {x : MV} {v : V} {A : List Addr} (h : OF K Hk H x v A) : ∀ a ∈ A, ∃ o, H a = some o := by
  cases x with
  | own xs =>
    unfold OF at h
    obtain ⟨p, vs, e1, e2, e3, e4⟩ := h
    intro a ha
    rw [e2] at ha
    simp at ha
    subst ha
    exact ⟨_, e3⟩
  | dow ks xs =>
    unfold OF at h
    obtain ⟨p, vs, e1, e2, e3, e5, e4⟩ := h
    intro a ha
    rw [e2] at ha
    simp at ha
    subst ha
    exact ⟨_, e3⟩
  | dot ks xs =>
    unfold OF at h
    obtain ⟨p, l, e1, e2, e3, e4⟩ := h
    intro a ha
    rw [e2] at ha
    simp at ha
    subst ha
    exact ⟨_, e3⟩
  | _ =>
    unfold OF at h
    intro a ha
    rw [h.1] at ha
    cases ha
theorem OFs.there {K : PySem.W.Frag} {Hk H : Hp} : ∀ {fs : List (Str × MV)} {vs : List (Str × V)} {A : List Addr}, OFs K Hk H fs vs A → ∀ a ∈ A, ∃ o, H a = some o
  | [], _, _, h, a, ha => by rw [h.2] at ha; cases ha
  | (n, x) :: fs, vs, A, h, a, ha => by
    obtain ⟨v, r, B, C, e1, e2, h1, h2⟩ := h
    rw [e2] at ha
    rcases List.mem_append.mp ha with ha | ha
    · exact h1.there a ha
    · exact OFs.there h2 a ha
theorem OB.there {K : PySem.W.Frag} {Hk H : Hp} {x : MV} {v : V} {A : List Addr} (h : OB K Hk H x v A) : ∀ a ∈ A, ∃ o, H a = some o := by
  cases x with
  | obj C fs =>
    unfold OB at h
    obtain ⟨p, CA, dx, vfs, B, e1, e2, e0, e3, e4, e5⟩ := h
    intro a ha
    rw [e2] at ha
    rcases List.mem_cons.mp ha with rfl | ha
    · exact ⟨_, e3⟩
    · exact OFs.there e4 a ha
  | _ => exact (show False by unfold OB at h; exact h).elim
theorem OBs.there {K : PySem.W.Frag} {Hk H : Hp} : ∀ {xs : List MV} {vs : List V} {A : List Addr}, OBs K Hk H xs vs A → ∀ a ∈ A, ∃ o, H a = some o
  | [], _, _, h, a, ha => by rw [h.2] at ha; cases ha
  | x :: xs, vs, A, h, a, ha => by
    obtain ⟨v, r, B, C, e1, e2, h1, h2⟩ := h
    rw [e2] at ha
    rcases List.mem_append.mp ha with ha | ha
    · exact h1.there a ha
    · exact OBs.there h2 a ha
theorem OV.there {K : PySem.W.Frag} {Hk H : Hp} {x : MV} {v : V} {A : List Addr} (h : OV K Hk H x v A) : ∀ a ∈ A, ∃ o, H a = some o := by
  cases x with
  | obj C fs =>
    unfold OV at h
    obtain ⟨p, CA, dx, vfs, B, e1, e2, e0, e3, e4, e5⟩ := h
    intro a ha
    rw [e2] at ha
    rcases List.mem_cons.mp ha with rfl | ha
    · exact ⟨_, e3⟩
    · exact OFs.there e4 a ha
  | ols os =>
    unfold OV at h
    obtain ⟨p, vs, B, e1, e2, e3, e4, e5⟩ := h
    intro a ha
    rw [e2] at ha
    rcases List.mem_cons.mp ha with rfl | ha
    · exact ⟨_, e3⟩
    · exact OBs.there e4 a ha
  | _ => (unfold OV at h; exact OF.there h)
def put (ow : Nat → List Addr) (i : Nat) (A : List Addr) : Nat → List Addr := fun j => if j = i then A else ow j
theorem put_same {ow : Nat → List Addr} {i : Nat} {A : List Addr} : put ow i A i = A := if_pos rfl
theorem put_ne {ow : Nat → List Addr} {i j : Nat} {A : List Addr} (h : j ≠ i) : put ow i A j = ow j := if_neg h
structure SL (K : PySem.W.Frag) (F Hk H : Hp) (ow : Nat → List Addr) (σ : St) (ρ : Env) : Prop where
  s : ∀ (i : Nat) x, ρ[i]? = some (some x) → ∃ v, σ[i]? = some (some v) ∧ OV K Hk H x v (ow i)
  f : ∀ i a, a ∈ ow i → Hk a = none ∧ F a = none ∧ ∃ o, H a = some o
  w : ∀ i, ow i ≠ [] → i < ρ.length
  d : ∀ i j a, i ≠ j → a ∈ ow i → a ∉ ow j
structure RS (K : PySem.W.Frag) (F Hk H : Hp) (bp : List (Nat × Addr)) (σ : St) (ρ : Env) : Prop where
  len : σ.length = ρ.length
  ex : Ex Hk H
  fr : Ex F H
  frk : ∀ a o, F a = some o → Hk a = none
  ow : ∃ ow, SL K F Hk H ow σ ρ
  bor : ∀ q ∈ bp, σ[q.1]? = some (some (.ref q.2))
theorem set_get {α : Type} {l : List α} {i j : Nat} {x y : α} (h : (l.set i x)[j]? = some y) : (j = i ∧ y = x) ∨ (j ≠ i ∧ l[j]? = some y) := by
  by_cases e : i = j
  · subst e
    rw [List.getElem?_set] at h
    simp at h
    exact .inl ⟨rfl, h.2.symm⟩
  · rw [List.getElem?_set_ne e] at h
    exact .inr ⟨fun q => e q.symm, h⟩
theorem app_get {α : Type} {l : List α} {j : Nat} {x y : α} (h : (l ++ [x])[j]? = some y) : (j = l.length ∧ y = x) ∨ (j < l.length ∧ l[j]? = some y) := by
  by_cases e : j < l.length
  · rw [List.getElem?_append_left e] at h; exact .inr ⟨e, h⟩
  · rw [List.getElem?_append_right (Nat.le_of_not_lt e)] at h
    have := (List.getElem?_eq_some_iff.mp h).1
    simp at this
    have ej : j = l.length := by omega
    subst ej
    simp at h
    exact .inl ⟨rfl, h.symm⟩
theorem lt_get {α : Type} {l : List α} {j : Nat} {y : α} (h : l[j]? = some y) : j < l.length := (List.getElem?_eq_some_iff.mp h).1
section
variable {K : PySem.W.Frag} {F Hk Hk' H H' : Hp} {bp : List (Nat × Addr)} {σ : St} {ρ : Env} {ow : Nat → List Addr}
theorem SL.out (S : SL K F Hk H ow σ ρ) {i : Nat} (h : ρ.length ≤ i) : ow i = [] := by
  cases e : ow i with
  | nil => rfl
  | cons a r => exact absurd (S.w i (by rw [e]; simp)) (by omega)
theorem SL.fresh (S : SL K F Hk H ow σ ρ) {p : Addr} (h : H p = none) (i : Nat) : p ∉ ow i := fun m => by
  obtain ⟨_, _, o, e⟩ := S.f i p m
  rw [h] at e; cases e
theorem SL.step (S : SL K F Hk H ow σ ρ) (e : Ex Hk Hk') (k : ∀ i, ∀ a ∈ ow i, H' a = H a ∧ Hk' a = none) : SL K F Hk' H' ow σ ρ := by
  refine ⟨fun i x h => ?_, fun i a h => ?_, S.w, S.d⟩
  · obtain ⟨v, ev, o⟩ := S.s i x h
    exact ⟨v, ev, o.move e fun a ha u hu => by rw [(k i a ha).1]; exact hu⟩
  · obtain ⟨f1, f2, o, f3⟩ := S.f i a h
    exact ⟨(k i a h).2, f2, o, by rw [(k i a h).1]; exact f3⟩
theorem SL.set (S : SL K F Hk H ow σ ρ) (hl : σ.length = ρ.length) {i : Nat} {x : MV} {v : V} (hi : i < ρ.length) (r : RV K Hk x v) : SL K F Hk H (put ow i []) (σ.set i (some v)) (ρ.set i (some x)) := by
  refine ⟨fun j y h => ?_, fun j a h => ?_, fun j h => ?_, fun j k a hjk h => ?_⟩
  · rcases set_get h with ⟨rfl, e⟩ | ⟨ne, e⟩
    · cases e
      refine ⟨v, by rw [List.getElem?_set_self (by rw [hl]; exact hi)], ?_⟩
      rw [put_same]; exact r.ov
    · obtain ⟨u, e1, e2⟩ := S.s j y e
      exact ⟨u, by rw [List.getElem?_set_ne (Ne.symm ne)]; exact e1, by rw [put_ne ne]; exact e2⟩
  · by_cases e : j = i
    · rw [e, put_same] at h; cases h
    · rw [put_ne e] at h; exact S.f j a h
  · by_cases e : j = i
    · rw [e, put_same] at h; exact (h rfl).elim
    · rw [put_ne e] at h; rw [List.length_set]; exact S.w j h
  · by_cases e : j = i
    · rw [e, put_same] at h; cases h
    · rw [put_ne e] at h
      by_cases e2 : k = i
      · rw [e2, put_same]; simp
      · rw [put_ne e2]; exact S.d j k a hjk h
theorem SL.push (S : SL K F Hk H ow σ ρ) (hl : σ.length = ρ.length) {x : MV} {v : V} {A : List Addr} (o : OV K Hk H x v A) (hf : ∀ a ∈ A, Hk a = none ∧ F a = none) (hd : ∀ i, ∀ a ∈ A, a ∉ ow i) :
    SL K F Hk H (put ow ρ.length A) (σ ++ [some v]) (ρ ++ [some x]) := by
  refine ⟨fun j y h => ?_, fun j a h => ?_, fun j h => ?_, fun j k a hjk h => ?_⟩
  · rcases app_get h with ⟨rfl, e⟩ | ⟨lt, e⟩
    · cases e
      refine ⟨v, by rw [← hl]; simp, ?_⟩
      rw [put_same]; exact o
    · obtain ⟨u, e1, e2⟩ := S.s j y e
      exact ⟨u, by rw [List.getElem?_append_left (by rw [hl]; exact lt)]; exact e1, by rw [put_ne (Nat.ne_of_lt lt)]; exact e2⟩
  · by_cases e : j = ρ.length
    · rw [e, put_same] at h; exact ⟨(hf a h).1, (hf a h).2, o.there a h⟩
    · rw [put_ne e] at h; exact S.f j a h
  · by_cases e : j = ρ.length
    · rw [e]; simp
    · rw [put_ne e] at h; have := S.w j h; simp; omega
  · by_cases e : j = ρ.length
    · rw [e, put_same] at h
      rw [put_ne (fun z => hjk (e.trans z.symm))]
      exact hd k a h
    · rw [put_ne e] at h
      by_cases e2 : k = ρ.length
      · rw [e2, put_same]; exact fun z => hd j a z h
      · rw [put_ne e2]; exact S.d j k a hjk h
theorem SL.take (S : SL K F Hk H ow (σ ++ [some v]) (ρ ++ [some x])) (hl : σ.length = ρ.length) {i : Nat} (hi : i < ρ.length) : SL K F Hk H (put (put ow i (ow ρ.length)) ρ.length []) (σ.set i (some v)) (ρ.set i (some x)) := by
  have ne : i ≠ ρ.length := Nat.ne_of_lt hi
  obtain ⟨u, hu, ou⟩ := S.s ρ.length x (by simp)
  have ev : u = v := by rw [← hl] at hu; simpa using hu.symm
  subst ev
  have lt : ∀ j a, a ∈ put (put ow i (ow ρ.length)) ρ.length [] j → (j = i ∧ a ∈ ow ρ.length) ∨ (j ≠ i ∧ j < ρ.length ∧ a ∈ ow j) := fun j a h => by
    by_cases e : j = ρ.length
    · rw [e, put_same] at h; cases h
    · rw [put_ne e] at h
      by_cases e2 : j = i
      · rw [e2, put_same] at h; exact .inl ⟨e2, h⟩
      · rw [put_ne e2] at h
        have := S.w j (by intro z; rw [z] at h; cases h)
        simp at this
        exact .inr ⟨e2, by omega, h⟩
  refine ⟨fun j y h => ?_, fun j a h => ?_, fun j h => ?_, fun j k a hjk h => ?_⟩
  · rcases set_get h with ⟨rfl, e⟩ | ⟨ne2, e⟩
    · cases e
      refine ⟨u, by rw [List.getElem?_set_self (by rw [hl]; exact hi)], ?_⟩
      rw [put_ne ne, put_same]; exact ou
    · have lj := lt_get e
      obtain ⟨w, e1, e2⟩ := S.s j y (by rw [List.getElem?_append_left lj]; exact e)
      rw [List.getElem?_append_left (by rw [hl]; exact lj)] at e1
      exact ⟨w, by rw [List.getElem?_set_ne (Ne.symm ne2)]; exact e1, by rw [put_ne (Nat.ne_of_lt lj), put_ne ne2]; exact e2⟩
  · rcases lt j a h with ⟨_, m⟩ | ⟨_, _, m⟩
    · exact S.f _ a m
    · exact S.f _ a m
  · rw [List.length_set]
    cases e : put (put ow i (ow ρ.length)) ρ.length [] j with
    | nil => exact (h e).elim
    | cons a r =>
      rcases lt j a (by rw [e]; simp) with ⟨e, _⟩ | ⟨_, l, _⟩
      · rw [e]; exact hi
      · exact l
  · intro hk
    rcases lt j a h with ⟨e1, m⟩ | ⟨e1, l1, m⟩ <;> rcases lt k a hk with ⟨e2, m2⟩ | ⟨e2, l2, m2⟩
    · exact hjk (e1.trans e2.symm)
    · exact S.d ρ.length k a (by omega) m m2
    · exact S.d j ρ.length a (by omega) m m2
    · exact S.d j k a hjk m m2
theorem SL.drop (S : SL K F Hk H ow (σ ++ [y]) (ρ ++ [x])) (hl : σ.length = ρ.length) : SL K F Hk H (put ow ρ.length []) σ ρ := by
  refine ⟨fun j y h => ?_, fun j a h => ?_, fun j h => ?_, fun j k a hjk h => ?_⟩
  · have lj := lt_get h
    obtain ⟨w, e1, e2⟩ := S.s j y (by rw [List.getElem?_append_left lj]; exact h)
    rw [List.getElem?_append_left (by rw [hl]; exact lj)] at e1
    exact ⟨w, e1, by rw [put_ne (Nat.ne_of_lt lj)]; exact e2⟩
  · by_cases e : j = ρ.length
    · rw [e, put_same] at h; cases h
    · rw [put_ne e] at h; exact S.f j a h
  · by_cases e : j = ρ.length
    · rw [e, put_same] at h; exact (h rfl).elim
    · rw [put_ne e] at h; have := S.w j h; simp at this; omega
  · by_cases e : j = ρ.length
    · rw [e, put_same] at h; cases h
    · rw [put_ne e] at h
      by_cases e2 : k = ρ.length
      · rw [e2, put_same]; simp
      · rw [put_ne e2]; exact S.d j k a hjk h
theorem RS.get (S : RS K F Hk H bp σ ρ) {i : Nat} {x : MV} (h : ρ[i]? = some (some x)) (hp : x.per = true) : ∃ v, σ[i]? = some (some v) ∧ RV K Hk x v := by
  obtain ⟨ow, s⟩ := S.ow
  obtain ⟨v, e, o⟩ := s.s i x h
  exact ⟨v, e, ((OV.per hp).mp o).2⟩
theorem RS.getOwn (S : RS K F Hk H bp σ ρ) {i : Nat} {xs : List MV} (h : ρ[i]? = some (some (.own xs))) : ∃ p vs, σ[i]? = some (some (.ref p)) ∧ H p = some (.lst vs) ∧ RVs K Hk xs vs ∧ Hk p = none ∧ F p = none := by
  obtain ⟨ow, s⟩ := S.ow
  obtain ⟨v, e, o⟩ := s.s i _ h
  obtain ⟨p, vs, e1, e2, e3, e4⟩ := OV.own.mp o
  have m : p ∈ ow i := by rw [e2]; simp
  exact ⟨p, vs, by rw [e, e1], e3, e4, (s.f i p m).1, (s.f i p m).2.1⟩
theorem RS.step (S : RS K F Hk H bp σ ρ) (e : Ex Hk Hk') (e' : Ex Hk' H') (k : ∀ a o, Hk a = none → H a = some o → H' a = some o ∧ Hk' a = none) : RS K F Hk' H' bp σ ρ := by
  obtain ⟨ow, s⟩ := S.ow
  refine ⟨S.len, e', fun a o h => (k a o (S.frk a o h) (S.fr a o h)).1, fun a o h => (k a o (S.frk a o h) (S.fr a o h)).2, ⟨ow, s.step e fun i a h => ?_⟩, S.bor⟩
  obtain ⟨f1, _, o, f2⟩ := s.f i a h
  exact ⟨((k a o f1 f2).1).trans f2.symm, (k a o f1 f2).2⟩
theorem RS.new (S : RS K F Hk H bp σ ρ) {p : Addr} {o : HO} (h : H p = none) : RS K F (upd Hk p o) (upd H p o) bp σ ρ :=
  S.step (Ex.new (S.ex.back h)) (S.ex.both h) fun a u hk ha => by
    have ne := ne_of_none ha h
    rw [upd_ne ne, upd_ne ne]
    exact ⟨ha, hk⟩
theorem RS.more (S : RS K F Hk H bp σ ρ) {p : Addr} {o : HO} (h : H p = none) : RS K F Hk (upd H p o) bp σ ρ :=
  S.step (Ex.refl _) (S.ex.mut (S.ex.back h)) fun a u hk ha => by
    rw [upd_ne (ne_of_none ha h)]
    exact ⟨ha, hk⟩
theorem RS.set (S : RS K F Hk H bp σ ρ) {i : Nat} {x : MV} {v : V} (hi : i < ρ.length) (r : RV K Hk x v) (hb : ∀ q ∈ bp, q.1 ≠ i) : RS K F Hk H bp (σ.set i (some v)) (ρ.set i (some x)) := by
  obtain ⟨ow, s⟩ := S.ow
  exact ⟨by simp [S.len], S.ex, S.fr, S.frk, ⟨_, s.set S.len hi r⟩, fun q hq => by rw [List.getElem?_set_ne (Ne.symm (hb q hq))]; exact S.bor q hq⟩
theorem RS.bor_app (S : RS K F Hk H bp σ ρ) (y : Option V) : ∀ q ∈ bp, (σ ++ [y])[q.1]? = some (some (.ref q.2)) := fun q hq => by
  have q1 := S.bor q hq
  rw [List.getElem?_append_left (lt_get q1)]; exact q1
theorem RS.push (S : RS K F Hk H bp σ ρ) {x : MV} {v : V} (r : RV K Hk x v) : RS K F Hk H bp (σ ++ [some v]) (ρ ++ [some x]) := by
  obtain ⟨ow, s⟩ := S.ow
  exact ⟨by simp [S.len], S.ex, S.fr, S.frk, ⟨_, s.push S.len r.ov (fun _ h => nomatch h) (fun _ _ h => nomatch h)⟩, S.bor_app _⟩
theorem RS.pushOwn (S : RS K F Hk H bp σ ρ) {p : Addr} {xs : List MV} {vs : List V} (h : H p = none) (r : RVs K Hk xs vs) : RS K F Hk (upd H p (.lst vs)) bp (σ ++ [some (.ref p)]) (ρ ++ [some (.own xs)]) := by
  obtain ⟨ow, s⟩ := S.ow
  have S' := S.more (o := .lst vs) h
  have s' : SL K F Hk (upd H p (.lst vs)) ow σ ρ := s.step (Ex.refl _) fun i a ha => by
    obtain ⟨f1, f2, o, f3⟩ := s.f i a ha
    exact ⟨upd_ne (ne_of_none f3 h), f1⟩
  have fp : F p = none := by
    cases e : F p with
    | none => rfl
    | some o => have := S.fr p o e; rw [h] at this; cases this
  refine ⟨by simp [S.len], S'.ex, S'.fr, S'.frk, ⟨_, s'.push S.len (A := [p]) (OV.own.mpr ⟨p, vs, rfl, rfl, upd_same, r⟩) (fun a ha => ?_) (fun i a ha => ?_)⟩, S.bor_app _⟩
  · simp at ha; subst ha; exact ⟨S.ex.back h, fp⟩
  · simp at ha; subst ha; exact s.fresh h i
theorem RS.take {v : V} {x : MV} (S : RS K F Hk H bp (σ ++ [some v]) (ρ ++ [some x])) {i : Nat} (hi : i < ρ.length) (hb : ∀ q ∈ bp, q.1 ≠ i ∧ q.1 < ρ.length) : RS K F Hk H bp (σ.set i (some v)) (ρ.set i (some x)) := by
  obtain ⟨ow, s⟩ := S.ow
  have hl : σ.length = ρ.length := by have := S.len; simpa using this
  refine ⟨by simp [hl], S.ex, S.fr, S.frk, ⟨_, s.take hl hi⟩, fun q hq => ?_⟩
  have q1 := S.bor q hq
  rw [List.getElem?_append_left (by rw [hl]; exact (hb q hq).2)] at q1
  rw [List.getElem?_set_ne (Ne.symm (hb q hq).1)]; exact q1
theorem RS.drop {y : Option V} {x : Option MV} (S : RS K F Hk H bp (σ ++ [y]) (ρ ++ [x])) (hb : ∀ q ∈ bp, q.1 < ρ.length) : RS K F Hk H bp σ ρ := by
  obtain ⟨ow, s⟩ := S.ow
  have hl : σ.length = ρ.length := by have := S.len; simpa using this
  refine ⟨hl, S.ex, S.fr, S.frk, ⟨_, s.drop hl⟩, fun q hq => ?_⟩
  have q1 := S.bor q hq
  rw [List.getElem?_append_left (by rw [hl]; exact hb q hq)] at q1
  exact q1
theorem RS.freeze (S : RS K F Hk H bp σ ρ) {i : Nat} {xs : List MV} (h : ρ[i]? = some (some (.own xs))) :
    ∃ p vs, σ[i]? = some (some (.ref p)) ∧ Ex Hk (upd Hk p (.lst vs)) ∧ RV K (upd Hk p (.lst vs)) (.lst xs) (.ref p) ∧ RS K F (upd Hk p (.lst vs)) H bp σ (ρ.set i (some (.lst xs))) := by
  obtain ⟨ow, s⟩ := S.ow
  obtain ⟨v, ev, o⟩ := s.s i _ h
  obtain ⟨p, vs, e1, e2, e3, e4⟩ := OV.own.mp o
  have m : p ∈ ow i := by rw [e2]; simp
  obtain ⟨f1, f2, _⟩ := s.f i p m
  have ex : Ex Hk (upd Hk p (.lst vs)) := Ex.new f1
  have rv : RV K (upd Hk p (.lst vs)) (.lst xs) (.ref p) := RV.lst.mpr ⟨p, vs, rfl, upd_same, e4.mono ex⟩
  have li := lt_get h
  refine ⟨p, vs, by rw [ev, e1], ex, rv, by simp [S.len], S.ex.updL e3, S.fr, fun a u ha => ?_, ⟨put ow i [], ?_⟩, S.bor⟩
  · rw [upd_ne (ne_of_none ha f2)]; exact S.frk a u ha
  · refine ⟨fun j y hj => ?_, fun j a hj => ?_, fun j hj => ?_, fun j k a hjk hj => ?_⟩
    · rcases set_get hj with ⟨rfl, e⟩ | ⟨ne, e⟩
      · cases e
        exact ⟨v, ev, by rw [put_same, e1]; exact rv.ov⟩
      · obtain ⟨u, u1, u2⟩ := s.s j y e
        exact ⟨u, u1, by rw [put_ne ne]; exact u2.move ex fun _ _ _ z => z⟩
    · by_cases e : j = i
      · rw [e, put_same] at hj; cases hj
      · rw [put_ne e] at hj
        obtain ⟨g1, g2⟩ := s.f j a hj
        refine ⟨?_, g2⟩
        rw [upd_ne (fun z => s.d j i a e hj (by rw [z]; exact m))]; exact g1
    · by_cases e : j = i
      · rw [e, put_same] at hj; exact (hj rfl).elim
      · rw [put_ne e] at hj; rw [List.length_set]; exact s.w j hj
    · by_cases e : j = i
      · rw [e, put_same] at hj; cases hj
      · rw [put_ne e] at hj
        by_cases e2 : k = i
        · rw [e2, put_same]; simp
        · rw [put_ne e2]; exact s.d j k a hjk hj
theorem RS.change (S : RS K F Hk H bp σ ρ) {i : Nat} {xs ys : List MV} (h : ρ[i]? = some (some (.own xs))) :
    ∃ p vs, σ[i]? = some (some (.ref p)) ∧ H p = some (.lst vs) ∧ RVs K Hk xs vs ∧ ∀ ws, RVs K Hk ys ws → RS K F Hk (upd H p (.lst ws)) bp σ (ρ.set i (some (.own ys))) := by
  obtain ⟨ow, s⟩ := S.ow
  obtain ⟨v, ev, o⟩ := s.s i _ h
  obtain ⟨p, vs, e1, e2, e3, e4⟩ := OV.own.mp o
  have m : p ∈ ow i := by rw [e2]; simp
  obtain ⟨f1, f2, _⟩ := s.f i p m
  refine ⟨p, vs, by rw [ev, e1], e3, e4, fun ws r => ⟨by simp [S.len], S.ex.mut f1, S.fr.mut f2, S.frk, ⟨ow, ?_⟩, S.bor⟩⟩
  refine ⟨fun j y hj => ?_, fun j a hj => ?_, fun j hj => by rw [List.length_set]; exact s.w j hj, s.d⟩
  · rcases set_get hj with ⟨rfl, e⟩ | ⟨ne, e⟩
    · cases e
      exact ⟨v, ev, OV.own.mpr ⟨p, ws, e1, e2, upd_same, r⟩⟩
    · obtain ⟨u, u1, u2⟩ := s.s j y e
      exact ⟨u, u1, u2.move (Ex.refl _) fun a ha o ho => by rw [upd_ne (fun z => s.d j i a ne ha (by rw [z]; exact m))]; exact ho⟩
  · obtain ⟨g1, g2, o, g3⟩ := s.f j a hj
    by_cases e : a = p
    · subst e; exact ⟨g1, g2, _, upd_same⟩
    · exact ⟨g1, g2, o, by rw [upd_ne e]; exact g3⟩
end
end Tm
set_option Elab.async false
set_option linter.all false
set_option maxRecDepth 100000
set_option maxHeartbeats 2000000
namespace Tm
open PySem L2
open Evl (Ex ex_rd ex_l ex_t)
structure Ct where
  K : PySem.W.Frag
  mg : Str → Option Value
  W : WX
  bs : List Nat
  J : Hp → List (Nat × Addr) → Prop
  Jm : ∀ F F1 bp, Ex F F1 → J F bp → J F1 bp
def XFs (K : PySem.W.Frag) (H : Hp) : List (Str × MV) → List (Str × V) → Prop
  | [], vs => vs = []
  | (n, x) :: xs, vs => ∃ v r, vs = (n, v) :: r ∧ RV K H x v ∧ XFs K H xs r
def ExR (K : PySem.W.Frag) (mg : Str → Option Value) (H : Hp) (e : MX) (cls : Value) (d : Option Addr) : Prop :=
  ∃ C, mg e.cls = some (.ref C) ∧ cls = .ref C ∧ ((e.fs = [] ∧ d = none) ∨ ∃ dx vfs, d = some dx ∧ H dx = some (.xd vfs) ∧ XFs K H e.fs vfs)
theorem XFs.mono {K : PySem.W.Frag} {H H' : Hp} (e : Ex H H') : ∀ {xs : List (Str × MV)} {vs : List (Str × V)}, XFs K H xs vs → XFs K H' xs vs
  | [], _, h => h
  | (n, x) :: xs, vs, h => by
    obtain ⟨v, r, e1, e2, e3⟩ := h
    exact ⟨v, r, e1, RV.mono e _ _ e2, XFs.mono e e3⟩
theorem ExR.mono {K : PySem.W.Frag} {mg : Str → Option Value} {H H' : Hp} {e : MX} {cls : Value} {d : Option Addr} (x : Ex H H') (h : ExR K mg H e cls d) : ExR K mg H' e cls d := by
  obtain ⟨C, h1, h2, h3⟩ := h
  refine ⟨C, h1, h2, ?_⟩
  rcases h3 with h3 | ⟨dx, vfs, a, b, c⟩
  · exact .inl h3
  · exact .inr ⟨dx, vfs, a, x _ _ b, c.mono x⟩
abbrev ME := Env → Res (MV × Env)
abbrev MT := Env → Res (Bool × Env)
abbrev MA := Env → Res (List MV × Env)
abbrev MS := Env → Res (Fl × Env)
def Wish (c : Ct) (F Hk : Hp) (bp : List (Nat × Addr)) (σ : St) (e : MX) (ρ : Env) : Prop :=
  ∀ Hk' H' cls d, Ex Hk Hk' → RS c.K F Hk' H' bp σ ρ → ExR c.K c.mg Hk' e cls d → c.W cls d σ H'
def okE (c : Ct) (F Hk : Hp) (bp : List (Nat × Addr)) (σ : St) (Q : VK) : Res (MV × Env) → Prop
  | .ok (x, ρ') => ∀ Hk' H' v, Ex Hk Hk' → RS c.K F Hk' H' bp σ ρ' → RV c.K Hk' x v → Q v H'
  | .exc e ρ' => Wish c F Hk bp σ e ρ'
  | .stuck => False
def okO (c : Ct) (F Hk : Hp) (bp : List (Nat × Addr)) (σ : St) (Q : VK) : Res (MV × Env) → Prop
  | .ok (x, ρ') => ∀ Hk' H' v, Ex Hk Hk' → RS c.K F Hk' H' bp (σ ++ [some v]) (ρ' ++ [some x]) → Q v H'
  | .exc e ρ' => Wish c F Hk bp σ e ρ'
  | .stuck => False
def okT (c : Ct) (F Hk : Hp) (bp : List (Nat × Addr)) (σ : St) (Q : Bool → Hp → Prop) : Res (Bool × Env) → Prop
  | .ok (x, ρ') => ∀ Hk' H', Ex Hk Hk' → RS c.K F Hk' H' bp σ ρ' → Q x H'
  | .exc e ρ' => Wish c F Hk bp σ e ρ'
  | .stuck => False
def okA (c : Ct) (F Hk : Hp) (bp : List (Nat × Addr)) (σ : St) (Q : List V → Hp → Prop) : Res (List MV × Env) → Prop
  | .ok (xs, ρ') => ∀ Hk' H' vs, Ex Hk Hk' → RS c.K F Hk' H' bp σ ρ' → RVs c.K Hk' xs vs → Q vs H'
  | .exc e ρ' => Wish c F Hk bp σ e ρ'
  | .stuck => False
def okS (c : Ct) (F Hk : Hp) (bp : List (Nat × Addr)) (D : Ends) : Res (Fl × Env) → Prop
  | .ok (.nx, ρ') => ∀ Hk' H' σ', Ex Hk Hk' → RS c.K F Hk' H' bp σ' ρ' → D.nx σ' H'
  | .ok (.br, ρ') => ∀ Hk' H' σ', Ex Hk Hk' → RS c.K F Hk' H' bp σ' ρ' → D.bk σ' H'
  | .ok (.ct, ρ') => ∀ Hk' H' σ', Ex Hk Hk' → RS c.K F Hk' H' bp σ' ρ' → D.ct σ' H'
  | .ok (.rt x, ρ') => ∀ Hk' H' σ' v, Ex Hk Hk' → (∀ q ∈ bp, q.1 < σ'.length) → RS c.K F Hk' H' bp (σ' ++ [some v]) (ρ' ++ [some x]) → D.rt v H'
  | .exc e ρ' => ∀ Hk' H' σ' cls d, Ex Hk Hk' → RS c.K F Hk' H' bp σ' ρ' → ExR c.K c.mg Hk' e cls d → c.W cls d σ' H'
  | .stuck => False
def At (c : Ct) (F Hk H : Hp) (bp : List (Nat × Addr)) (σ : St) (ρ : Env) : Prop := RS c.K F Hk H bp σ ρ ∧ bp.map (·.1) = c.bs ∧ c.J F bp
def rdE (c : Ct) (m : ME) : TE := fun σ H Q => ∃ F Hk bp ρ, At c F Hk H bp σ ρ ∧ okE c F Hk bp σ Q (m ρ)
def rdO (c : Ct) (m : ME) : TE := fun σ H Q => ∃ F Hk bp ρ, At c F Hk H bp σ ρ ∧ okO c F Hk bp σ Q (m ρ)
def rdT (c : Ct) (m : MT) : TT := fun σ H Q => ∃ F Hk bp ρ, At c F Hk H bp σ ρ ∧ okT c F Hk bp σ Q (m ρ)
def rdA (c : Ct) (m : MA) : TA := fun σ H Q => ∃ F Hk bp ρ, At c F Hk H bp σ ρ ∧ okA c F Hk bp σ Q (m ρ)
def rdS (c : Ct) (m : MS) : TS := fun D σ H => ∃ F Hk bp ρ, At c F Hk H bp σ ρ ∧ okS c F Hk bp D (m ρ)
section
variable {c : Ct} {F Hk Hk' H H' : Hp} {bp : List (Nat × Addr)} {σ : St} {ρ : Env}
theorem Wish.mono {e : MX} (x : Ex Hk Hk') (h : Wish c F Hk bp σ e ρ) : Wish c F Hk' bp σ e ρ := fun Hk2 H2 cls d x2 => h Hk2 H2 cls d (x.trans x2)
theorem okE.mono {Q : VK} {r : Res (MV × Env)} (x : Ex Hk Hk') (h : okE c F Hk bp σ Q r) : okE c F Hk' bp σ Q r := by
  cases r with
  | ok a => exact fun Hk2 H2 v x2 => h Hk2 H2 v (x.trans x2)
  | exc e ρ => exact Wish.mono x h
  | stuck => exact h
theorem okO.mono {Q : VK} {r : Res (MV × Env)} (x : Ex Hk Hk') (h : okO c F Hk bp σ Q r) : okO c F Hk' bp σ Q r := by
  cases r with
  | ok a => exact fun Hk2 H2 v x2 => h Hk2 H2 v (x.trans x2)
  | exc e ρ => exact Wish.mono x h
  | stuck => exact h
theorem okT.mono {Q : Bool → Hp → Prop} {r : Res (Bool × Env)} (x : Ex Hk Hk') (h : okT c F Hk bp σ Q r) : okT c F Hk' bp σ Q r := by
  cases r with
  | ok a => exact fun Hk2 H2 x2 => h Hk2 H2 (x.trans x2)
  | exc e ρ => exact Wish.mono x h
  | stuck => exact h
theorem okA.mono {Q : List V → Hp → Prop} {r : Res (List MV × Env)} (x : Ex Hk Hk') (h : okA c F Hk bp σ Q r) : okA c F Hk' bp σ Q r := by
  cases r with
  | ok a => exact fun Hk2 H2 v x2 => h Hk2 H2 v (x.trans x2)
  | exc e ρ => exact Wish.mono x h
  | stuck => exact h
theorem okS.mono {D : Ends} {r : Res (Fl × Env)} (x : Ex Hk Hk') (h : okS c F Hk bp D r) : okS c F Hk' bp D r := by
  cases r with
  | ok a =>
    obtain ⟨f, ρ'⟩ := a
    cases f with
    | nx => exact fun Hk2 H2 σ' x2 => h Hk2 H2 σ' (x.trans x2)
    | br => exact fun Hk2 H2 σ' x2 => h Hk2 H2 σ' (x.trans x2)
    | ct => exact fun Hk2 H2 σ' x2 => h Hk2 H2 σ' (x.trans x2)
    | rt y => exact fun Hk2 H2 σ' v x2 => h Hk2 H2 σ' v (x.trans x2)
  | exc e ρ' => exact fun Hk2 H2 σ' cls d x2 => h Hk2 H2 σ' cls d (x.trans x2)
  | stuck => exact h
def Res.bind {α β : Type} (r : Res (α × Env)) (f : α → Env → Res (β × Env)) : Res (β × Env) :=
  match r with
  | .ok (x, ρ) => f x ρ
  | .exc e ρ => .exc e ρ
  | .stuck => .stuck
end
theorem PEw {X : Cx} {e : Expr} {t t' : TE} (h : PE X e t) (w : ∀ σ H Q, t' σ H Q → t σ H Q) : PE X e t' := ⟨fun pins s σ H Q I q => h.run pins s σ H Q I (w σ H Q q)⟩
theorem PTw {X : Cx} {e : Expr} {t t' : TT} (h : PT X e t) (w : ∀ σ H Q, t' σ H Q → t σ H Q) : PT X e t' := ⟨fun pins s σ H Q I q => h.run pins s σ H Q I (w σ H Q q)⟩
theorem PWw {X : Cx} {e : Expr} {t t' : TT} (h : PW X e t) (w : ∀ σ H Q, t' σ H Q → t σ H Q) : PW X e t' := ⟨fun wh pins s σ H Q I q => h.run wh pins s σ H Q I (w σ H Q q)⟩
theorem PAw {X : Cx} {e : List Expr} {t t' : TA} (h : PA X e t) (w : ∀ σ H Q, t' σ H Q → t σ H Q) : PA X e t' := ⟨fun pos pins s σ H Q I q => h.run pos pins s σ H Q I (w σ H Q q)⟩
theorem PSw {X : Cx} {e : Stmt} {t t' : TS} (h : PS X e t) (w : ∀ D σ H, t' D σ H → t D σ H) : PS X e t' := ⟨fun pins s σ H D I q => h.run pins s σ H D I (w D σ H q)⟩
theorem PSsw {X : Cx} {e : List Stmt} {t t' : TS} (h : PSs X e t) (w : ∀ D σ H, t' D σ H → t D σ H) : PSs X e t' := ⟨fun pins s σ H D I q => h.run pins s σ H D I (w D σ H q)⟩
section
variable {X : Cx} {c : Ct}
def mVar (i : Nat) : ME := fun ρ => match ρ[i]? with
  | some (some (.own xs)) => .ok (.lst xs, ρ.set i (some (.lst xs)))
  | some (some (.obj _ _)) => .stuck
  | some (some (.dow _ _)) => .stuck
  | some (some (.dot _ _)) => .stuck
  | some (some (.ols _)) => .stuck
  | some (some x) => .ok (x, ρ)
  | _ => .stuck
def mC (x : MV) : ME := fun ρ => .ok (x, ρ)
theorem rd_var {i : Nat} {σ : St} {H : Hp} {Q : VK} (h : rdE c (mVar i) σ H Q) : tVar i σ H Q := by
  obtain ⟨F, Hk, bp, ρ, ⟨S, _⟩, h⟩ := h
  have pl : ∀ x : MV, x.per = true → ρ[i]? = some (some x) → (∀ Hk' H' v, Ex Hk Hk' → RS c.K F Hk' H' bp σ ρ → RV c.K Hk' x v → Q v H') → tVar i σ H Q := fun x px e q => by
    obtain ⟨v, ev, r⟩ := S.get e px
    exact ⟨v, ev, q Hk H v (Ex.refl _) S r⟩
  unfold mVar at h
  split at h
  · rename_i xs e
    obtain ⟨p, vs, e1, ex, r, S'⟩ := S.freeze e
    exact ⟨_, e1, h _ _ _ ex S' r⟩
  · exact h.elim
  · exact h.elim
  · exact h.elim
  · exact h.elim
  · rename_i x n1 n2 n3 n4 n5 e
    refine pl x ?_ e h
    cases x <;> first | rfl | (exfalso; first | exact n1 _ rfl | exact n2 _ _ rfl | exact n3 _ _ rfl | exact n4 _ _ rfl | exact n5 _ rfl)
  · exact h.elim
theorem me_var {i : Nat} {x : Str} {pos : Pos} (hN : X.N[i]? = some x) (hv : Vis X.env.scope x) (hd : (x == ("__debug__" : Str)) = false := by decide) (hcd : (x == ("__classdict__" : Str)) = false := by decide) : PE X (.Name x pos) (rdE c (mVar i)) :=
  PEw (pe_var hN hv hd hcd) fun _ _ _ h => rd_var h
theorem rd_c {x : MV} {v : V} (r : ∀ H, RV c.K H x v) {σ : St} {H : Hp} {Q : VK} (h : rdE c (mC x) σ H Q) : tC v σ H Q := by
  obtain ⟨F, Hk, bp, ρ, ⟨S, _⟩, h⟩ := h
  exact h Hk H v (Ex.refl _) S (r _)
theorem me_int {i j pos} : PE X (.Constant (.int i) j pos) (rdE c (mC (.int i))) := PEw pe_int fun _ _ _ h => rd_c (fun _ => RV.int.mpr rfl) h
theorem me_bl {b j pos} : PE X (.Constant (.bool b) j pos) (rdE c (mC (.bl b))) := PEw pe_bl fun _ _ _ h => rd_c (fun _ => RV.bl.mpr rfl) h
theorem me_non {j pos} : PE X (.Constant .none j pos) (rdE c (mC .non)) := PEw pe_non fun _ _ _ h => rd_c (fun _ => RV.non.mpr rfl) h
theorem me_str {x j pos} : PE X (.Constant (.str x) j pos) (rdE c (mC (.str x))) := PEw pe_str fun _ _ _ h => rd_c (fun _ => RV.str.mpr rfl) h
def mOp (f : MV → MV → Option MV) (a b : ME) : ME := fun ρ => (a ρ).bind fun x ρ1 => (b ρ1).bind fun y ρ2 => match f x y with | some z => .ok (z, ρ2) | none => .stuck
def OpS (K : PySem.W.Frag) (f : MV → MV → Option MV) (r : R2) : Prop := ∀ (x y z : MV) (v w : V) (Hk H : Hp) (Q : VK), f x y = some z → Ex Hk H → RV K Hk x v → RV K Hk y w → (∀ u, RV K Hk z u → Q u H) →
  (∀ p o, H p = none → RV K (upd Hk p o) z (.ref p) → Q (.ref p) (upd H p o)) → r v w H Q
theorem rd_op {f : MV → MV → Option MV} {r : R2} (o : OpS c.K f r) {a b : ME} {σ : St} {H : Hp} {Q : VK} (h : rdE c (mOp f a b) σ H Q) : tOp r (rdE c a) (rdE c b) σ H Q := by
  obtain ⟨F, Hk, bp, ρ, ⟨S, eb⟩, h⟩ := h
  refine ⟨F, Hk, bp, ρ, ⟨S, eb⟩, ?_⟩
  unfold mOp at h
  cases ea : a ρ with
  | stuck => rw [ea] at h; exact h.elim
  | exc e ρ' => rw [ea] at h; exact h
  | ok p =>
    obtain ⟨x, ρ1⟩ := p
    rw [ea] at h
    intro Hk1 H1 v x1 S1 r1
    refine ⟨F, Hk1, bp, ρ1, ⟨S1, eb⟩, ?_⟩
    have h : okE c F Hk bp σ Q ((b ρ1).bind fun y ρ2 => match f x y with | some z => .ok (z, ρ2) | none => .stuck) := h
    cases e2 : b ρ1 with
    | stuck => rw [e2] at h; exact h.elim
    | exc e ρ' => rw [e2] at h; exact Wish.mono x1 h
    | ok p =>
      obtain ⟨y, ρ2⟩ := p
      rw [e2] at h
      intro Hk2 H2 w x2 S2 r2
      have h : okE c F Hk bp σ Q (match f x y with | some z => .ok (z, ρ2) | none => .stuck) := h
      cases ez : f x y with
      | none => rw [ez] at h; exact h.elim
      | some z =>
        rw [ez] at h
        refine o x y z v w Hk2 H2 Q ez S2.ex (RV.mono x2 _ _ r1) r2 (fun u ru => h Hk2 H2 u (x1.trans x2) S2 ru) fun p ob hp ru => ?_
        exact h _ _ _ ((x1.trans x2).trans (Ex.new (S2.ex.back hp))) (S2.new hp) ru
theorem me_op {op : Operator} {f : MV → MV → Option MV} {r : R2} {a b : Expr} {ma mb : ME} {pos : Pos} (ho : OpR X (binaryOp op) r) (o : OpS c.K f r) (ha : PE X a (rdE c ma)) (hb : PE X b (rdE c mb)) : PE X (.BinOp a op b pos) (rdE c (mOp f ma mb)) :=
  PEw (pe_op ho ha hb) fun _ _ _ h => rd_op o h
theorem me_cmp {op : CmpOp} {f : MV → MV → Option MV} {r : R2} {a b : Expr} {ma mb : ME} {pos : Pos} (ho : OpR X (compareOp op) r) (o : OpS c.K f r) (ha : PE X a (rdE c ma)) (hb : PE X b (rdE c mb)) (hm : behindInMarks op b = false) : PE X (.Compare a [op] [b] pos) (rdE c (mOp f ma mb)) :=
  PEw (pe_cmpR ho ha hb hm) fun _ _ _ h => rd_op o h
end
end Tm
set_option Elab.async false
set_option linter.all false
set_option maxRecDepth 100000
set_option maxHeartbeats 2000000
namespace Tm
open PySem L2
open Evl (Ex ex_rd ex_l ex_t)
def szOk (n : Nat) : Bool := decide (n ≤ sizeLine)
def fAdd : MV → MV → Option MV
  | .int i, .int j => some (.int (i + j))
  | .int i, .bl b => some (.int (i + PyProof.Rows.b2i b))
  | .str a, .str b => if szOk (a.length + b.length) then some (.str (a ++ b)) else none
  | .lst a, .lst b => if szOk (a.length + b.length) then some (.lst (a ++ b)) else none
  | .tup a, .tup b => if szOk (a.length + b.length) then some (.tup (a ++ b)) else none
  | _, _ => none
def fSub : MV → MV → Option MV
  | .int i, .int j => some (.int (i - j))
  | _, _ => none
def mulOk (i j : Int) : Bool := (decide (-(2 ^ 64) < i) && decide (i < 2 ^ 64)) || (decide (-(2 ^ 64) < j) && decide (j < 2 ^ 64)) || decide (i.natAbs.log2 + j.natAbs.log2 < 1000000)
instance (i j : Int) : Decidable (CMulW i j) := inferInstanceAs (Decidable (i.natAbs.log2 + j.natAbs.log2 < 1000000))
def repS (a : Str) (k : Int) : Str := ⟨(List.replicate k.toNat a.cps.toList).flatten.toArray⟩
def fMul : MV → MV → Option MV
  | .int i, .int j => if mulOk i j then some (.int (i * j)) else none
  | .tup a, .int k => if decide (-(2 ^ 63) ≤ k) && decide (k < 2 ^ 63) && (decide (k = 1) || a.isEmpty || (decide (2 ≤ k) && decide (k ≤ 1000) && decide (a.length ≤ 1000))) then some (.tup (List.replicate k.toNat a).flatten) else none
  | .str a, .int k => if decide (-(2 ^ 63) ≤ k) && decide (k < 2 ^ 63) && szOk (a.length * k.toNat) then some (.str (repS a k)) else none
  | .lst a, .int k => if decide (-(2 ^ 63) ≤ k) && decide (k < 2 ^ 63) && szOk (a.length * k.toNat) then some (.lst (List.replicate k.toNat a).flatten) else none
  | _, _ => none
def divOk (j : Int) : Bool := (decide (j ≠ 0) && decide (j.natAbs < 1073741824)) || (decide (0 < j) && decide (j.natAbs.log2 < 9000))
def fDiv : MV → MV → Option MV
  | .int i, .int j => if divOk j then some (.int (i.fdiv j)) else none
  | _, _ => none
def fMod : MV → MV → Option MV
  | .int i, .int j => if decide (j ≠ 0) then some (.int (i.fmod j)) else none
  | _, _ => none
def fPow : MV → MV → Option MV
  | .int i, .int j => if decide (0 ≤ j) && decide (j ≤ 1000000) && decide (i.natAbs < 2 ^ 64) then some (.int (i ^ j.toNat)) else none
  | _, _ => none
def fLt : MV → MV → Option MV
  | .int i, .int j => some (.bl (decide (i < j)))
  | _, _ => none
def fGt : MV → MV → Option MV
  | .int i, .int j => some (.bl (decide (j < i)))
  | _, _ => none
def fGe : MV → MV → Option MV
  | .int i, .int j => some (.bl (decide (j ≤ i)))
  | _, _ => none
def MV.isN : MV → Bool
  | .non => true
  | .raw w => decide (w = .non)
  | _ => false
def fIsN : MV → MV → Option MV
  | x, .non => some (.bl x.isN)
  | _, _ => none
def fNotN : MV → MV → Option MV
  | x, .non => some (.bl (!x.isN))
  | _, _ => none
def scalM : MV → MV → Bool
  | .non, .non => true | .non, .int _ => true | .int _, .non => true | .non, .bl _ => true | .bl _, .non => true | .non, .str _ => true | .str _, .non => true
  | .int _, .int _ => true | .bl _, .bl _ => true | .str _, .str _ => true
  | .int _, .str _ => true | .str _, .int _ => true | .bl _, .str _ => true | .str _, .bl _ => true
  | _, _ => false
def sameM : MV → MV → Bool
  | .non, .non => true
  | .int i, .int j => decide (i = j)
  | .bl i, .bl j => decide (i = j)
  | .str i, .str j => decide (i = j)
  | _, _ => false
mutual
def toD : MV → Option PyData
  | .non => some .none
  | .bl b => some (.bool b)
  | .int i => some (.int i)
  | .str x => some (.str x)
  | .tup xs => (toDs xs).map .tuple
  | .lst xs => (toDs xs).map .list
  | _ => none
def toDs : List MV → Option (List PyData)
  | [] => some []
  | x :: xs => match toD x, toDs xs with
    | some d, some ds => some (d :: ds)
    | _, _ => none
end
def eqM (x y : MV) : Option Bool :=
  if scalM x y then some (sameM x y) else
  match toD x, toD y with
  | some d, some e => if SeqAt.shaped d && SeqAt.shaped e then some (PyData.eqv d e) else none
  | _, _ => none
def fEq (x y : MV) : Option MV := (eqM x y).map .bl
def fNe (x y : MV) : Option MV := (eqM x y).map fun b => .bl (!b)
section
variable {K : PySem.W.Frag}
def rAddM (K : PySem.W.Frag) : R2 := fun x y H Q => (rI0 fun i j => .int (i + j)) x y H Q ∨ (∃ i k, x = .int i ∧ y = .bl k ∧ Q (.int (i + PyProof.Rows.b2i k)) H) ∨ (∃ i j, x = .str i ∧ y = .str j ∧ i.length + j.length ≤ sizeLine ∧ Q (.str (i ++ j)) H) ∨ rCat x y H Q ∨ rCatA K x y H Q
theorem op_addM {X : Cx} : OpR X (binaryOp .Add) (rAddM X.K) := OpR.or op_add (OpR.or op_add_ib (OpR.or op_add_str (OpR.or op_cat op_catA)))
theorem szOk_iff {n : Nat} : szOk n = true ↔ n ≤ sizeLine := by unfold szOk; simp
theorem os_add : OpS K fAdd (rAddM K) := by
  intro x y z v w Hk H Q e ex r1 r2 q qn
  unfold fAdd at e
  split at e
  · cases e
    exact .inl ⟨_, _, RV.int.mp r1, RV.int.mp r2, q _ (RV.int.mpr rfl)⟩
  · cases e
    exact .inr (.inl ⟨_, _, RV.int.mp r1, RV.bl.mp r2, q _ (RV.int.mpr rfl)⟩)
  · split at e
    · rename_i a b h
      cases e
      exact .inr (.inr (.inl ⟨_, _, RV.str.mp r1, RV.str.mp r2, szOk_iff.mp h, q _ (RV.str.mpr rfl)⟩))
    · cases e
  · split at e
    · rename_i a b h
      cases e
      obtain ⟨p1, vs, rfl, h1, s1⟩ := RV.lst.mp r1
      obtain ⟨p2, ws, rfl, h2, s2⟩ := RV.lst.mp r2
      refine .inr (.inr (.inr (.inl ⟨p1, p2, vs, ws, rfl, rfl, ex _ _ h1, ex _ _ h2, ?_, fun p hp => qn p _ hp ?_⟩)))
      · rw [s1.length, s2.length]; exact szOk_iff.mp h
      · have z := Ex.new (o := .lst (vs ++ ws)) (ex.back hp)
        exact RV.lst.mpr ⟨p, _, rfl, upd_same, (s1.append s2).mono z⟩
    · cases e
  · split at e
    · rename_i a b h
      cases e
      obtain ⟨p1, vs, rfl, h1, s1⟩ := RV.tup.mp r1
      obtain ⟨p2, ws, rfl, h2, s2⟩ := RV.tup.mp r2
      refine .inr (.inr (.inr (.inr ⟨p1, p2, vs, ws, rfl, rfl, ex_t ex h1, ex_t ex h2, ?_, fun e0 => ?_, fun e0 e1 => ?_, fun e0 e1 p hp => qn p _ hp ?_⟩)))
      · rw [s1.length, s2.length]; exact szOk_iff.mp h
      · have z := s1.append s2
        rw [e0, List.nil_append] at z
        exact q _ (RV.tup.mpr ⟨p2, ws, rfl, h2, z⟩)
      · have z := s1.append s2
        rw [e1, List.append_nil] at z
        exact q _ (RV.tup.mpr ⟨p1, vs, rfl, h1, z⟩)
      · have z := Ex.new (o := .tup (vs ++ ws)) (ex.back hp)
        exact RV.tup.mpr ⟨p, _, rfl, SqT.of upd_same, (s1.append s2).mono z⟩
    · cases e
  · cases e
theorem os_sub : OpS K fSub (rI0 fun i j => .int (i - j)) := by
  intro x y z v w Hk H Q e ex r1 r2 q qn
  unfold fSub at e
  split at e
  · cases e; exact ⟨_, _, RV.int.mp r1, RV.int.mp r2, q _ (RV.int.mpr rfl)⟩
  · cases e
open PySem.Spec PyProof.Rows in
theorem tuple_mulSame (l : Addr) (items : Array Value) (n : Nat) (dd : Option Addr) (sl : Array (Option Value)) (x : Int) (u : Tok) (c0 : (decide (x < -(2 ^ 63)) || decide (x ≥ 2 ^ 63)) = false) (c1 : (items.isEmpty || x == 1) = true) :
    Meets (Builtin.«tuple.__mul__» ⟨[.ref l, .int x u], []⟩) (fun _ R s => s.heap.get? l = some { cls := .type "tuple", dict := dd, data := .seq items n, slots := sl } ∧ R (.ok (.ret (Value.ref l))) s) :=
  .of_wp fun prog w A R s h => by
    obtain ⟨hp, g, d, tk, os⟩ := s
    obtain ⟨hl, h⟩ := h
    have f1 := AutoSeq1.idx_int
    wp_walk using wpAny_loadPart' hl
    repeat (first
      | (refine wpAny_ite_false (decide_eq_false (by rw [c0]; exact Bool.false_ne_true)) ?_; wp_walk using wpAny_loadPart' hl)
      | (refine wpAny_ite_true (decide_eq_true c1) ?_; wp_walk using wpAny_loadPart' hl))
    exact ⟨_, rfl, h⟩
def rRepTS (K : PySem.W.Frag) : R2 := fun x y H Q => ∃ l k xs, x = .ref l ∧ y = .int k ∧ SqT K H l xs ∧ (k = 1 ∨ xs = []) ∧ -(2 ^ 63) ≤ k ∧ k < 2 ^ 63 ∧ Q (.ref l) H
open PySem.Spec PyProof.Rows in
theorem op_repTS {X : Cx} : OpR X (binaryOp .Mult) (rRepTS X.K) := by
  intro pins s σ H x y v u Q I rx ry h
  obtain ⟨l, k, xs, rfl, rfl, hT, hs, h1, h2, q⟩ := h
  cases rx
  obtain ⟨t, rfl⟩ := ry
  obtain ⟨its, r, ⟨⟨cls, dd, data, sl⟩, ho, hc, n, hd⟩, _⟩ := I.tuple hT
  simp only at hc hd
  subst hc hd
  have hle : its.length = xs.length := r.length.symm
  have c0 : (decide (k < -(2 ^ 63)) || decide (k ≥ 2 ^ 63)) = false := by
    rw [decide_eq_false (by omega), decide_eq_false (by omega)] <;> rfl
  have c1 : (its.toArray.isEmpty || k == 1) = true := by
    rw [Bool.or_eq_true]
    rcases hs with rfl | rfl
    · exact .inr rfl
    · have : its = [] := List.length_eq_zero_iff.mp hle
      subst this
      exact .inl rfl
  exact wpAny_binaryOp_repeat_ref (T := "tuple") (U := "int") (by decide) ⟨_, ho, rfl⟩ (fun s' => typeIs_int s' k t) noFill_tuple_mul F.fills_int_mul F.slot_int_rmul repeat_tuple F.slot_int_index.lookup
    (call_meets F.slot_int_rmul (typeIs_int s k t) F.entry_int_rmul (F.args_int_rmul_2 _ _) (int_rmul_tuple k t l its.toArray n dd sl)
      ⟨ho, rfl, ⟨_, ho, rfl⟩, call_meets F.slot_tuple_mul ⟨_, ho, rfl⟩ F.entry_tuple_mul (F.args_tuple_mul_2 _ _) (tuple_mulSame l its.toArray n dd sl k t c0 c1) ⟨ho, ⟨.ref l, H, I, rfl, q⟩⟩⟩)
def rRepS : R2 := fun x y H Q => ∃ a k, x = .str a ∧ y = .int k ∧ -(2 ^ 63) ≤ k ∧ k < 2 ^ 63 ∧ a.length * k.toNat ≤ sizeLine ∧ Q (.str (repS a k)) H
theorem rep_foldl (l : Array Nat) : ∀ (n : Nat) (acc : Array Nat), (List.replicate n l).foldl (· ++ ·) acc = (acc.toList ++ (List.replicate n l.toList).flatten).toArray
  | 0, acc => by simp
  | n + 1, acc => by
    rw [List.replicate_succ, List.foldl_cons, rep_foldl l n, List.replicate_succ, List.flatten_cons]
    simp
theorem op_repS {X : Cx} : OpR X (binaryOp .Mult) rRepS := by
  intro pins s σ H x y v u Q I rx ry h
  obtain ⟨a, k, rfl, rfl, h1, h2, hz, q⟩ := h
  obtain ⟨t, rfl⟩ := rx
  obtain ⟨t', rfl⟩ := ry
  have sz : sizeLine = 16777216 := rfl
  refine PySem.P.mul_str ?_ ?_ ?_ ?_
  · rw [decide_eq_false (by omega), decide_eq_false (by omega)]; rfl
  · intro h3 h4 h5
    have hk : 1 < k := by
      have : (k == 1) = false := by cases e : (k == 1) <;> simp [e] at h4 ⊢
      have := beq_eq_false_iff_ne.mp this
      omega
    have e1 : ((a.length : Int) * k) ≤ 16777216 := by
      rw [sz] at hz
      have : ((a.length * k.toNat : Nat) : Int) ≤ 16777216 := by omega
      rw [Int.natCast_mul, Int.toNat_of_nonneg (by omega)] at this
      exact this
    have e2 : (a.length : Int) ≤ (2 ^ 63 - 1) / k := by
      refine (Int.le_ediv_iff_mul_le (by omega)).mpr ?_
      omega
    omega
  · intro h3 h4
    unfold Builtin.Str.tooLong
    exact decide_eq_false (by omega)
  · split
    · rename_i h3
      refine ⟨by decide, .str (repS a k), H, I.tok _, ⟨s.toks, ?_⟩, q⟩
      have : k.toNat = 0 := by omega
      unfold repS
      rw [this]; rfl
    · split
      · rename_i h3 h4
        refine ⟨.str (repS a k), H, I, ⟨t, ?_⟩, q⟩
        have : repS a k = a := by
          unfold repS
          rw [Bool.or_eq_true] at h4
          rcases h4 with h4 | h4
          · have : k = 1 := by simpa using h4
            subst this
            show (⟨([a.cps.toList].flatten).toArray⟩ : Str) = a
            simp
          · have e0 : a.cps.toList = [] := by
              have : a.length = 0 := by simpa using h4
              exact List.length_eq_zero_iff.mp (by rw [Array.length_toList]; exact this)
            rw [e0]
            have : ∀ n : Nat, (List.replicate n ([] : List Nat)).flatten = [] := fun n => by simp
            rw [this]
            cases a with
            | mk cps =>
              simp only at e0
              rw [← e0]
        rw [this]
      · rename_i h3 h4
        have e1 : (⟨(List.replicate k.toNat a.cps).foldl (· ++ ·) #[]⟩ : Str) = repS a k := by
          unfold repS
          rw [rep_foldl]
          rfl
        rw [e1]
        refine ⟨?_, .str (repS a k), H, I.tok _, ⟨s.toks, rfl⟩, q⟩
        show (List.replicate k.toNat a.cps.toList).flatten.toArray.size ≤ sizeLine
        rw [List.size_toArray, PyProof.Rows.lm_len_rep_flat, Nat.mul_comm]
        exact hz
def rMulM (K : PySem.W.Frag) : R2 := fun x y H Q => (rI CMul fun i j => .int (i * j)) x y H Q ∨ (rI CMulW fun i j => .int (i * j)) x y H Q ∨ rRep x y H Q ∨ rRepS x y H Q ∨ rRepTS K x y H Q ∨ rRepT K x y H Q
theorem op_mulM {X : Cx} : OpR X (binaryOp .Mult) (rMulM X.K) := OpR.or op_mul (OpR.or op_mulW (OpR.or op_rep (OpR.or op_repS (OpR.or op_repTS op_repT))))
theorem RVs.rep {H : Hp} {xs : List MV} {vs : List V} (h : RVs K H xs vs) : ∀ n : Nat, RVs K H (List.replicate n xs).flatten (List.replicate n vs).flatten
  | 0 => by simp [RVs]
  | n + 1 => by
    rw [List.replicate_succ, List.replicate_succ, List.flatten_cons, List.flatten_cons]
    exact h.append (RVs.rep h n)
theorem os_mul : OpS K fMul (rMulM K) := by
  intro x y z v w Hk H Q e ex r1 r2 q qn
  unfold fMul at e
  split at e
  · rename_i i j
    split at e
    · rename_i h
      cases e
      unfold mulOk at h
      rw [Bool.or_eq_true] at h
      rcases h with h | h
      · refine .inl ⟨i, j, RV.int.mp r1, RV.int.mp r2, ?_, q _ (RV.int.mpr rfl)⟩
        simp only [Bool.or_eq_true, Bool.and_eq_true, decide_eq_true_eq] at h
        exact h
      · exact .inr (.inl ⟨i, j, RV.int.mp r1, RV.int.mp r2, of_decide_eq_true h, q _ (RV.int.mpr rfl)⟩)
    · cases e
  · rename_i a k
    split at e
    · rename_i h
      cases e
      simp only [Bool.and_eq_true, Bool.or_eq_true, decide_eq_true_eq] at h
      obtain ⟨p1, vs, rfl, h1, s1⟩ := RV.tup.mp r1
      have hvl := s1.length
      by_cases hk : k = 1 ∨ vs = []
      · refine .inr (.inr (.inr (.inr (.inl ⟨p1, k, vs, rfl, RV.int.mp r2, ex_t ex h1, hk, h.1.1, h.1.2, q _ ?_⟩))))
        have er : (List.replicate k.toNat a).flatten = a := by
          rcases hk with rfl | rfl
          · simp
          · have : a = [] := List.length_eq_zero_iff.mp (by simpa using hvl.symm)
            subst this; simp
        rw [er]
        exact RV.tup.mpr ⟨p1, vs, rfl, h1, s1⟩
      · have hk2 : 2 ≤ k ∧ k ≤ 1000 ∧ a.length ≤ 1000 := by
          rcases h.2 with (h2 | h2) | h2
          · exact absurd (.inl h2) hk
          · exact absurd (.inr (List.length_eq_zero_iff.mp (by rw [hvl]; simpa using h2))) hk
          · exact ⟨h2.1.1, h2.1.2, h2.2⟩
        refine .inr (.inr (.inr (.inr (.inr ⟨p1, k, vs, rfl, RV.int.mp r2, ex_t ex h1, fun e0 => hk (.inr e0), hk2.1, hk2.2.1, by rw [hvl]; exact hk2.2.2, fun p hp => qn p _ hp ?_⟩))))
        have z := Ex.new (o := .tup (List.replicate k.toNat vs).flatten) (ex.back hp)
        exact RV.tup.mpr ⟨p, _, rfl, SqT.of upd_same, (RVs.rep s1 _).mono z⟩
    · cases e
  · rename_i a k
    split at e
    · rename_i h
      cases e
      simp only [Bool.and_eq_true, decide_eq_true_eq] at h
      exact .inr (.inr (.inr (.inl ⟨a, k, RV.str.mp r1, RV.int.mp r2, h.1.1, h.1.2, szOk_iff.mp h.2, q _ (RV.str.mpr rfl)⟩)))
    · cases e
  · rename_i a k
    split at e
    · rename_i h
      cases e
      simp only [Bool.and_eq_true, decide_eq_true_eq] at h
      obtain ⟨p1, vs, rfl, h1, s1⟩ := RV.lst.mp r1
      refine .inr (.inr (.inl ⟨p1, k, vs, rfl, RV.int.mp r2, ex _ _ h1, h.1.1, h.1.2, ?_, fun p hp => qn p _ hp ?_⟩))
      · rw [s1.length]; exact szOk_iff.mp h.2
      · have z := Ex.new (o := .lst (List.replicate k.toNat vs).flatten) (ex.back hp)
        exact RV.lst.mpr ⟨p, _, rfl, upd_same, (RVs.rep s1 _).mono z⟩
    · cases e
  · cases e
def rDivM : R2 := fun x y H Q => (rI CDivN fun i j => .int (i.fdiv j)) x y H Q ∨ (rI CDivW fun i j => .int (i / j)) x y H Q
theorem op_divM {X : Cx} : OpR X (binaryOp .FloorDiv) rDivM := OpR.or op_fdivN op_fdivW
theorem os_div : OpS K fDiv rDivM := by
  intro x y z v w Hk H Q e ex r1 r2 q qn
  unfold fDiv at e
  split at e
  · rename_i i j
    split at e
    · rename_i h
      cases e
      unfold divOk at h
      rw [Bool.or_eq_true] at h
      rcases h with h | h
      · simp only [Bool.and_eq_true, decide_eq_true_eq] at h
        exact .inl ⟨i, j, RV.int.mp r1, RV.int.mp r2, h, q _ (RV.int.mpr rfl)⟩
      · simp only [Bool.and_eq_true, decide_eq_true_eq] at h
        refine .inr ⟨i, j, RV.int.mp r1, RV.int.mp r2, h, ?_⟩
        have := q _ (RV.int.mpr rfl)
        rw [Int.fdiv_eq_ediv_of_nonneg i (by omega)] at this
        exact this
    · cases e
  · cases e
theorem os_mod : OpS K fMod (rI (fun _ j => j ≠ 0) fun i j => .int (i.fmod j)) := by
  intro x y z v w Hk H Q e ex r1 r2 q qn
  unfold fMod at e
  split at e
  · split at e
    · rename_i h
      cases e
      exact ⟨_, _, RV.int.mp r1, RV.int.mp r2, of_decide_eq_true h, q _ (RV.int.mpr rfl)⟩
    · cases e
  · cases e
theorem os_pow : OpS K fPow (rI CPow fun i j => .int (i ^ j.toNat)) := by
  intro x y z v w Hk H Q e ex r1 r2 q qn
  unfold fPow at e
  split at e
  · split at e
    · rename_i h
      cases e
      simp only [Bool.and_eq_true, decide_eq_true_eq] at h
      exact ⟨_, _, RV.int.mp r1, RV.int.mp r2, ⟨h.1.1, h.1.2, h.2⟩, q _ (RV.int.mpr rfl)⟩
    · cases e
  · cases e
theorem os_lt : OpS K fLt (rI0 fun i j => .bl (decide (i < j))) := by
  intro x y z v w Hk H Q e ex r1 r2 q qn
  unfold fLt at e
  split at e
  · cases e; exact ⟨_, _, RV.int.mp r1, RV.int.mp r2, q _ (RV.bl.mpr rfl)⟩
  · cases e
theorem os_gt : OpS K fGt (rI0 fun i j => .bl (decide (j < i))) := by
  intro x y z v w Hk H Q e ex r1 r2 q qn
  unfold fGt at e
  split at e
  · cases e; exact ⟨_, _, RV.int.mp r1, RV.int.mp r2, q _ (RV.bl.mpr rfl)⟩
  · cases e
theorem os_ge : OpS K fGe (rI0 fun i j => .bl (decide (j ≤ i))) := by
  intro x y z v w Hk H Q e ex r1 r2 q qn
  unfold fGe at e
  split at e
  · cases e; exact ⟨_, _, RV.int.mp r1, RV.int.mp r2, q _ (RV.bl.mpr rfl)⟩
  · cases e
theorem RV.isnon {H : Hp} {x : MV} {v : V} (h : RV K H x v) : decide (v = .non) = x.isN := by
  cases x with
  | raw w => rw [RV.raw.mp h]; rfl
  | own _ => unfold RV at h; exact h.elim
  | obj _ _ => unfold RV at h; exact h.elim
  | non => rw [RV.non.mp h]; rfl
  | int i => rw [RV.int.mp h]; rfl
  | bl i => rw [RV.bl.mp h]; rfl
  | str i => rw [RV.str.mp h]; rfl
  | tup xs => obtain ⟨a, vs, e, _⟩ := RV.tup.mp h; rw [e]; rfl
  | lst xs => obtain ⟨a, vs, e, _⟩ := RV.lst.mp h; rw [e]; rfl
  | scr xs => obtain ⟨a, e, _⟩ := RV.scr.mp h; rw [e]; rfl
  | fnc x => obtain ⟨a, e, _⟩ := RV.fnc.mp h; rw [e]; rfl
  | dct ks xs => obtain ⟨a, vs, e, _⟩ := RV.dct.mp h; rw [e]; rfl
  | dow _ _ => unfold RV at h; exact h.elim
  | dot _ _ => unfold RV at h; exact h.elim
  | ols _ => unfold RV at h; exact h.elim
  | exn C fs => obtain ⟨a, _, _, e, _⟩ := RV.exn.mp h; rw [e]; rfl
theorem os_isN : OpS K fIsN (fun x y H Q => y = .non ∧ Q (.bl (decide (x = .non))) H) := by
  intro x y z v w Hk H Q e ex r1 r2 q qn
  unfold fIsN at e
  split at e
  · cases e; refine ⟨RV.non.mp r2, ?_⟩
    rw [r1.isnon]; exact q _ (RV.bl.mpr rfl)
  · cases e
theorem os_notN : OpS K fNotN (fun x y H Q => y = .non ∧ Q (.bl (!decide (x = .non))) H) := by
  intro x y z v w Hk H Q e ex r1 r2 q qn
  unfold fNotN at e
  split at e
  · cases e; refine ⟨RV.non.mp r2, ?_⟩
    rw [r1.isnon]; exact q _ (RV.bl.mpr rfl)
  · cases e
theorem scal_of {H : Hp} {x y : MV} {v w : V} (h : scalM x y = true) (r1 : RV K H x v) (r2 : RV K H y w) : scal v w = true ∧ decide (v = w) = sameM x y := by
  unfold scalM at h
  split at h <;> first | (cases h; done) | skip
  all_goals
    first
      | (rw [RV.non.mp r1] ) | (rw [RV.int.mp r1]) | (rw [RV.bl.mp r1]) | (rw [RV.str.mp r1])
    first
      | (rw [RV.non.mp r2] ) | (rw [RV.int.mp r2]) | (rw [RV.bl.mp r2]) | (rw [RV.str.mp r2])
    refine ⟨rfl, ?_⟩
    simp [sameM]
mutual
theorem Dp.of {Hk H : Hp} (ex : Ex Hk H) : ∀ (x : MV) (v : V) (d : PyData), RV K Hk x v → toD x = some d → Dp K H v d
  | .non, v, d, r, e => by rw [RV.non.mp r]; unfold toD at e; cases e; exact .non
  | .bl b, v, d, r, e => by rw [RV.bl.mp r]; unfold toD at e; cases e; exact .bl b
  | .int b, v, d, r, e => by rw [RV.int.mp r]; unfold toD at e; cases e; exact .int b
  | .str b, v, d, r, e => by rw [RV.str.mp r]; unfold toD at e; cases e; exact .str b
  | .tup xs, v, d, r, e => by
    obtain ⟨a, vs, rfl, h, s⟩ := RV.tup.mp r
    unfold toD at e
    cases e2 : toDs xs with
    | none => rw [e2] at e; cases e
    | some ds =>
      rw [e2] at e; cases e
      exact .tup (ex_t ex h) (DpAll.of ex xs vs ds s e2)
  | .lst xs, v, d, r, e => by
    obtain ⟨a, vs, rfl, h, s⟩ := RV.lst.mp r
    unfold toD at e
    cases e2 : toDs xs with
    | none => rw [e2] at e; cases e
    | some ds =>
      rw [e2] at e; cases e
      exact .lst (SqL.of (ex _ _ h)) (DpAll.of ex xs vs ds s e2)
  | .own _, v, d, r, e => by unfold toD at e; cases e
  | .raw _, v, d, r, e => by unfold toD at e; cases e
  | .scr _, v, d, r, e => by unfold toD at e; cases e
  | .fnc _, v, d, r, e => by unfold toD at e; cases e
  | .obj _ _, v, d, r, e => by unfold toD at e; cases e
  | .dct _ _, v, d, r, e => by unfold toD at e; cases e
  | .dow _ _, v, d, r, e => by unfold toD at e; cases e
  | .dot _ _, v, d, r, e => by unfold toD at e; cases e
theorem DpAll.of {Hk H : Hp} (ex : Ex Hk H) : ∀ (xs : List MV) (vs : List V) (ds : List PyData), RVs K Hk xs vs → toDs xs = some ds → DpAll K H vs ds
  | [], vs, ds, r, e => by rw [RVs.nil.mp r]; unfold toDs at e; cases e; exact .nil
  | x :: xs, vs, ds, r, e => by
    obtain ⟨v, us, rfl, r1, r2⟩ := RVs.cons.mp r
    unfold toDs at e
    split at e
    · rename_i d ds' e1 e2
      cases e
      exact .cons (Dp.of ex x v d r1 e1) (DpAll.of ex xs us ds' r2 e2)
    · cases e
end
def rEqM (K : PySem.W.Frag) : R2 := fun x y H Q => rEq x y H Q ∨ rEqD K x y H Q
def rNeM (K : PySem.W.Frag) : R2 := fun x y H Q => rNe x y H Q ∨ rNeD K x y H Q
theorem op_eqM {X : Cx} (hu : X.A.units + 64 < cLine) : OpR X (compareOp .Eq) (rEqM X.K) := OpR.or op_eq (op_eqD hu)
theorem op_neM {X : Cx} (hu : X.A.units + 64 < cLine) : OpR X (compareOp .NotEq) (rNeM X.K) := OpR.or op_ne (op_neD hu)
theorem os_eq : OpS K fEq (rEqM K) := by
  intro x y z v w Hk H Q e ex r1 r2 q qn
  unfold fEq eqM at e
  split at e
  · rename_i h
    obtain ⟨s1, s2⟩ := scal_of h r1 r2
    cases e
    refine .inl ⟨s1, ?_⟩
    rw [s2]; exact q _ (RV.bl.mpr rfl)
  · split at e
    · rename_i d e' e1 e2
      split at e
      · rename_i h
        rw [Bool.and_eq_true] at h
        cases e
        exact .inr ⟨d, e', Dp.of ex _ _ _ r1 e1, Dp.of ex _ _ _ r2 e2, h.1, h.2, q _ (RV.bl.mpr rfl)⟩
      · cases e
    · cases e
theorem os_ne : OpS K fNe (rNeM K) := by
  intro x y z v w Hk H Q e ex r1 r2 q qn
  unfold fNe eqM at e
  split at e
  · rename_i h
    obtain ⟨s1, s2⟩ := scal_of h r1 r2
    cases e
    refine .inl ⟨s1, ?_⟩
    rw [s2]; exact q _ (RV.bl.mpr rfl)
  · split at e
    · rename_i d e' e1 e2
      split at e
      · rename_i h
        rw [Bool.and_eq_true] at h
        cases e
        exact .inr ⟨d, e', Dp.of ex _ _ _ r1 e1, Dp.of ex _ _ _ r2 e2, h.1, h.2, q _ (RV.bl.mpr rfl)⟩
      · cases e
    · cases e
def fIx : MV → MV → Option MV
  | .lst xs, .int i => atI xs i
  | .tup xs, .int i => atI xs i
  | .scr ns, .int i => (atI ns i).map .int
  | .str z, .int i => if szOk z.length then (atI z.cps.toList i).map fun c => .str ⟨#[c]⟩ else none
  | _, _ => none
theorem atI_rv {H : Hp} {xs : List MV} {vs : List V} (r : RVs K H xs vs) {i : Int} {x : MV} (e : atI xs i = some x) : ∃ v, atI vs i = some v ∧ RV K H x v := by
  unfold atI at e ⊢
  rw [r.length]
  cases h : ixN xs.length i with
  | none => rw [h] at e; cases e
  | some j =>
    rw [h] at e
    exact r.get e
theorem atI_map {α β : Type} {f : α → β} {xs : List α} {i : Int} {x : α} (e : atI xs i = some x) : atI (xs.map f) i = some (f x) := by
  unfold atI at e ⊢
  rw [List.length_map]
  cases h : ixN xs.length i with
  | none => rw [h] at e; cases e
  | some j =>
    rw [h] at e
    show (xs.map f)[j]? = _
    rw [List.getElem?_map, show xs[j]? = some x from e]; rfl
theorem os_ix : OpS K fIx (rIx K) := by
  intro x y z v w Hk H Q e ex r1 r2 q qn
  unfold fIx at e
  split at e
  · obtain ⟨p1, vs, rfl, h1, s1⟩ := RV.lst.mp r1
    obtain ⟨u, eu, ru⟩ := atI_rv s1 e
    exact .inl ⟨p1, vs, _, u, rfl, RV.int.mp r2, SqL.of (ex _ _ h1), eu, q _ ru⟩
  · obtain ⟨p1, vs, rfl, h1, s1⟩ := RV.tup.mp r1
    obtain ⟨u, eu, ru⟩ := atI_rv s1 e
    exact .inr (.inl ⟨p1, vs, _, u, rfl, RV.int.mp r2, ex_t ex h1, eu, q _ ru⟩)
  · rename_i ns i
    obtain ⟨p1, rfl, h1⟩ := RV.scr.mp r1
    cases h : atI ns i with
    | none => rw [h] at e; cases e
    | some n =>
      rw [h] at e; cases e
      exact .inl ⟨p1, _, _, _, rfl, RV.int.mp r2, ex_l ex h1, atI_map h, q _ (RV.int.mpr rfl)⟩
  · rename_i s i
    split at e
    · rename_i hz
      cases h : atI s.cps.toList i with
      | none => rw [h] at e; cases e
      | some n =>
        rw [h] at e; cases e
        exact .inr (.inr ⟨s, i, n, RV.str.mp r1, RV.int.mp r2, szOk_iff.mp hz, h, q _ (RV.str.mpr rfl)⟩)
    · cases e
  · cases e
def flatM : MV → Bool
  | .non | .bl _ | .int _ | .str _ => true
  | _ => false
def eqFlat : MV → MV → Bool
  | .non, .non => true
  | .bl a, .bl b => a == b
  | .bl a, .int b => (if a then 1 else 0) == b
  | .int a, .bl b => a == (if b then 1 else 0)
  | .int a, .int b => a == b
  | .str a, .str b => a == b
  | _, _ => false
theorem flat_v {H : Hp} {x : MV} {v : V} (h : flatM x = true) (r : RV K H x v) : flatV v = true := by
  unfold flatM at h
  split at h <;> first | (cases h; done) | skip
  · rw [RV.non.mp r]; rfl
  · rw [RV.bl.mp r]; rfl
  · rw [RV.int.mp r]; rfl
  · rw [RV.str.mp r]; rfl
theorem flat_eq {H : Hp} {x y : MV} {v w : V} (h : flatM x = true) (h2 : flatM y = true) (r : RV K H x v) (r2 : RV K H y w) : eqV v w = eqFlat x y := by
  unfold flatM at h h2
  split at h <;> first | (cases h; done) | skip
  all_goals (split at h2 <;> first | (cases h2; done) | skip)
  all_goals
    first
      | (rw [RV.non.mp r] ) | (rw [RV.int.mp r]) | (rw [RV.bl.mp r]) | (rw [RV.str.mp r])
    first
      | (rw [RV.non.mp r2] ) | (rw [RV.int.mp r2]) | (rw [RV.bl.mp r2]) | (rw [RV.str.mp r2])
    rfl
theorem flats_v {H : Hp} : ∀ {xs : List MV} {vs : List V}, xs.all flatM = true → RVs K H xs vs → vs.all flatV = true
  | [], vs, _, r => by rw [RVs.nil.mp r]; rfl
  | x :: xs, vs, h, r => by
    obtain ⟨v, us, rfl, r1, r2⟩ := RVs.cons.mp r
    rw [List.all_cons, Bool.and_eq_true] at h
    rw [List.all_cons, flat_v h.1 r1, flats_v h.2 r2]; rfl
theorem inV_eq {H : Hp} {y : MV} {w : V} (hy : flatM y = true) (ry : RV K H y w) : ∀ {xs : List MV} {vs : List V}, xs.all flatM = true → RVs K H xs vs → inV w vs = xs.any fun x => eqFlat x y
  | [], vs, _, r => by rw [RVs.nil.mp r]; rfl
  | x :: xs, vs, h, r => by
    obtain ⟨v, us, rfl, r1, r2⟩ := RVs.cons.mp r
    rw [List.all_cons, Bool.and_eq_true] at h
    have ih := inV_eq hy ry h.2 r2
    unfold inV at ih ⊢
    rw [List.any_cons, List.any_cons, ih, flat_eq h.1 hy r1 ry]
def inM (y : MV) (xs : List MV) : Option Bool := if flatM y && xs.all flatM then some (xs.any fun x => eqFlat x y) else none
def inA : MV → MV → Option Bool
  | y, .lst xs => inM y xs
  | y, .tup xs => inM y xs
  | .str i, .str j => some (!(Builtin.Str.occurrences j i 0 j.length 1).isEmpty)
  | _, _ => none
def fIn (x y : MV) : Option MV := (inA x y).map .bl
def rInM (K : PySem.W.Frag) : R2 := fun x y H Q => rIn K false x y H Q ∨ (∃ i j, x = .str i ∧ y = .str j ∧ Q (.bl (!(Builtin.Str.occurrences j i 0 j.length 1).isEmpty)) H)
theorem op_inM {X : Cx} : OpR X (compareOp .In) (rInM X.K) := OpR.or op_in_seq op_in_str
theorem in_sq {Hk H : Hp} {x y : MV} {v w : V} {b : Bool} (ex : Ex Hk H) (r1 : RV K Hk x v) (r2 : RV K Hk y w) (e : inA x y = some b) :
    (∃ p xs, w = .ref p ∧ (SqL K H p xs ∨ SqT K H p xs) ∧ flatV v = true ∧ xs.all flatV = true ∧ inV v xs = b) ∨ (∃ i j, v = .str i ∧ w = .str j ∧ (!(Builtin.Str.occurrences j i 0 j.length 1).isEmpty) = b) := by
  unfold inA at e
  split at e
  · unfold inM at e
    split at e
    · rename_i h
      cases e
      rw [Bool.and_eq_true] at h
      obtain ⟨p1, vs, rfl, h1, s1⟩ := RV.lst.mp r2
      exact .inl ⟨p1, vs, rfl, .inl (SqL.of (ex _ _ h1)), flat_v h.1 r1, flats_v h.2 s1, inV_eq h.1 r1 h.2 s1⟩
    · cases e
  · unfold inM at e
    split at e
    · rename_i h
      cases e
      rw [Bool.and_eq_true] at h
      obtain ⟨p1, vs, rfl, h1, s1⟩ := RV.tup.mp r2
      exact .inl ⟨p1, vs, rfl, .inr (ex_t ex h1), flat_v h.1 r1, flats_v h.2 s1, inV_eq h.1 r1 h.2 s1⟩
    · cases e
  · cases e
    exact .inr ⟨_, _, RV.str.mp r1, RV.str.mp r2, rfl⟩
  · cases e
theorem os_in : OpS K fIn (rInM K) := by
  intro x y z v w Hk H Q e ex r1 r2 q qn
  unfold fIn at e
  cases eb : inA x y with
  | none => rw [eb] at e; cases e
  | some b =>
    rw [eb] at e; cases e
    rcases in_sq ex r1 r2 eb with ⟨p, xs, e1, e2, e3, e4, e5⟩ | ⟨i, j, e1, e2, e3⟩
    · exact .inl ⟨p, xs, e1, e2, e3, e4, by rw [if_neg (by decide), e5]; exact q _ (RV.bl.mpr rfl)⟩
    · exact .inr ⟨i, j, e1, e2, by rw [e3]; exact q _ (RV.bl.mpr rfl)⟩
end
end Tm
set_option Elab.async false
set_option linter.all false
set_option maxRecDepth 100000
set_option maxHeartbeats 2000000
namespace Tm
open PySem L2
open Evl (Ex ex_rd ex_l ex_t)
structure Post (c : Ct) (F : Hp) (bp : List (Nat × Addr)) (σ : St) {β : Type} (P : Hp → Res (β × Env) → Prop) : Prop where
  ex : ∀ Hk e ρ, P Hk (.exc e ρ) → Wish c F Hk bp σ e ρ
  st : ∀ Hk, ¬ P Hk .stuck
  mono : ∀ Hk Hk' r, Ex Hk Hk' → P Hk r → P Hk' r
section
variable {c : Ct} {F Hk H : Hp} {bp : List (Nat × Addr)} {σ : St} {ρ : Env} {β : Type}
theorem postE {Q : VK} : Post c F bp σ fun Hk r => okE c F Hk bp σ Q r := ⟨fun _ _ _ h => h, fun _ h => h, fun _ _ _ x h => okE.mono x h⟩
theorem postO {Q : VK} : Post c F bp σ fun Hk r => okO c F Hk bp σ Q r := ⟨fun _ _ _ h => h, fun _ h => h, fun _ _ _ x h => okO.mono x h⟩
theorem postT {Q : Bool → Hp → Prop} : Post c F bp σ fun Hk r => okT c F Hk bp σ Q r := ⟨fun _ _ _ h => h, fun _ h => h, fun _ _ _ x h => okT.mono x h⟩
theorem postA {Q : List V → Hp → Prop} : Post c F bp σ fun Hk r => okA c F Hk bp σ Q r := ⟨fun _ _ _ h => h, fun _ h => h, fun _ _ _ x h => okA.mono x h⟩
theorem postS {D : Ends} : Post c F bp σ fun Hk r => okS c F Hk bp D r := ⟨fun _ _ _ h Hk' H' cls d => h Hk' H' σ cls d, fun _ h => h, fun _ _ _ x h => okS.mono x h⟩
variable {P : Hp → Res (β × Env) → Prop}
theorem bE (p : Post c F bp σ P) {a : ME} {k : MV → Env → Res (β × Env)} (S : At c F Hk H bp σ ρ) (h : P Hk ((a ρ).bind k)) :
    rdE c a σ H fun v H1 => ∃ Hk1 x ρ1, Ex Hk Hk1 ∧ At c F Hk1 H1 bp σ ρ1 ∧ RV c.K Hk1 x v ∧ P Hk1 (k x ρ1) := by
  refine ⟨F, Hk, bp, ρ, S, ?_⟩
  cases e : a ρ with
  | stuck => rw [e] at h; exact p.st _ h
  | exc x ρ' => rw [e] at h; exact p.ex _ _ _ h
  | ok q =>
    rw [e] at h
    exact fun Hk1 H1 v x1 S1 r1 => ⟨Hk1, q.1, q.2, x1, ⟨S1, S.2⟩, r1, p.mono _ _ _ x1 h⟩
theorem bO (p : Post c F bp σ P) {a : ME} {k : MV → Env → Res (β × Env)} (S : At c F Hk H bp σ ρ) (h : P Hk ((a ρ).bind k)) :
    rdO c a σ H fun v H1 => ∃ Hk1 x ρ1, Ex Hk Hk1 ∧ RS c.K F Hk1 H1 bp (σ ++ [some v]) (ρ1 ++ [some x]) ∧ P Hk1 (k x ρ1) := by
  refine ⟨F, Hk, bp, ρ, S, ?_⟩
  cases e : a ρ with
  | stuck => rw [e] at h; exact p.st _ h
  | exc x ρ' => rw [e] at h; exact p.ex _ _ _ h
  | ok q =>
    rw [e] at h
    exact fun Hk1 H1 v x1 S1 => ⟨Hk1, q.1, q.2, x1, S1, p.mono _ _ _ x1 h⟩
theorem bT (p : Post c F bp σ P) {a : MT} {k : Bool → Env → Res (β × Env)} (S : At c F Hk H bp σ ρ) (h : P Hk ((a ρ).bind k)) :
    rdT c a σ H fun b H1 => ∃ Hk1 ρ1, Ex Hk Hk1 ∧ At c F Hk1 H1 bp σ ρ1 ∧ P Hk1 (k b ρ1) := by
  refine ⟨F, Hk, bp, ρ, S, ?_⟩
  cases e : a ρ with
  | stuck => rw [e] at h; exact p.st _ h
  | exc x ρ' => rw [e] at h; exact p.ex _ _ _ h
  | ok q =>
    rw [e] at h
    exact fun Hk1 H1 x1 S1 => ⟨Hk1, q.2, x1, ⟨S1, S.2⟩, p.mono _ _ _ x1 h⟩
theorem bA (p : Post c F bp σ P) {a : MA} {k : List MV → Env → Res (β × Env)} (S : At c F Hk H bp σ ρ) (h : P Hk ((a ρ).bind k)) :
    rdA c a σ H fun vs H1 => ∃ Hk1 xs ρ1, Ex Hk Hk1 ∧ At c F Hk1 H1 bp σ ρ1 ∧ RVs c.K Hk1 xs vs ∧ P Hk1 (k xs ρ1) := by
  refine ⟨F, Hk, bp, ρ, S, ?_⟩
  cases e : a ρ with
  | stuck => rw [e] at h; exact p.st _ h
  | exc x ρ' => rw [e] at h; exact p.ex _ _ _ h
  | ok q =>
    rw [e] at h
    exact fun Hk1 H1 vs x1 S1 r1 => ⟨Hk1, q.1, q.2, x1, ⟨S1, S.2⟩, r1, p.mono _ _ _ x1 h⟩
end
section
variable {c : Ct}
theorem okE.imp {F Hk : Hp} {bp : List (Nat × Addr)} {σ : St} {Q Q' : VK} {r : Res (MV × Env)} (h : okE c F Hk bp σ Q r) (w : ∀ v H, Q v H → Q' v H) : okE c F Hk bp σ Q' r := by
  cases r with
  | ok a => exact fun Hk2 H2 v x S r => w _ _ (h Hk2 H2 v x S r)
  | exc e ρ => exact h
  | stuck => exact h
theorem okT.imp {F Hk : Hp} {bp : List (Nat × Addr)} {σ : St} {Q Q' : Bool → Hp → Prop} {r : Res (Bool × Env)} (h : okT c F Hk bp σ Q r) (w : ∀ v H, Q v H → Q' v H) : okT c F Hk bp σ Q' r := by
  cases r with
  | ok a => exact fun Hk2 H2 x S => w _ _ (h Hk2 H2 x S)
  | exc e ρ => exact h
  | stuck => exact h
theorem okA.imp {F Hk : Hp} {bp : List (Nat × Addr)} {σ : St} {Q Q' : List V → Hp → Prop} {r : Res (List MV × Env)} (h : okA c F Hk bp σ Q r) (w : ∀ v H, Q v H → Q' v H) : okA c F Hk bp σ Q' r := by
  cases r with
  | ok a => exact fun Hk2 H2 v x S r => w _ _ (h Hk2 H2 v x S r)
  | exc e ρ => exact h
  | stuck => exact h
theorem okO.imp {F Hk : Hp} {bp : List (Nat × Addr)} {σ : St} {Q Q' : VK} {r : Res (MV × Env)} (h : okO c F Hk bp σ Q r) (w : ∀ v H, Q v H → Q' v H) : okO c F Hk bp σ Q' r := by
  cases r with
  | ok a => exact fun Hk2 H2 v x S => w _ _ (h Hk2 H2 v x S)
  | exc e ρ => exact h
  | stuck => exact h
theorem rdw {m : ME} {σ : St} {H : Hp} {Q Q' : VK} (h : rdE c m σ H Q) (w : ∀ v H, Q v H → Q' v H) : rdE c m σ H Q' := let ⟨F, Hk, bp, ρ, S, q⟩ := h; ⟨F, Hk, bp, ρ, S, q.imp w⟩
theorem rdOw {m : ME} {σ : St} {H : Hp} {Q Q' : VK} (h : rdO c m σ H Q) (w : ∀ v H, Q v H → Q' v H) : rdO c m σ H Q' := let ⟨F, Hk, bp, ρ, S, q⟩ := h; ⟨F, Hk, bp, ρ, S, q.imp w⟩
theorem rdTw {m : MT} {σ : St} {H : Hp} {Q Q' : Bool → Hp → Prop} (h : rdT c m σ H Q) (w : ∀ v H, Q v H → Q' v H) : rdT c m σ H Q' := let ⟨F, Hk, bp, ρ, S, q⟩ := h; ⟨F, Hk, bp, ρ, S, q.imp w⟩
theorem rdAw {m : MA} {σ : St} {H : Hp} {Q Q' : List V → Hp → Prop} (h : rdA c m σ H Q) (w : ∀ v H, Q v H → Q' v H) : rdA c m σ H Q' := let ⟨F, Hk, bp, ρ, S, q⟩ := h; ⟨F, Hk, bp, ρ, S, q.imp w⟩
end
section
variable {X : Cx} {c : Ct}
def mTest (a : ME) : MT := fun ρ => (a ρ).bind fun x ρ1 => match x with | .bl b => .ok (b, ρ1) | _ => .stuck
theorem rd_test {a : ME} {σ : St} {H : Hp} {Q : Bool → Hp → Prop} (h : rdT c (mTest a) σ H Q) : (rdE c a) σ H fun x H' => ∃ k, x = .bl k ∧ Q k H' := by
  obtain ⟨F, Hk, bp, ρ, S, h⟩ := h
  obtain ⟨F', Hk', bp', ρ', S', h'⟩ := bE postT S h
  refine ⟨F', Hk', bp', ρ', S', ?_⟩
  cases e : a ρ' with
  | stuck => rw [e] at h'; exact h'
  | exc x r => rw [e] at h'; exact h'
  | ok q =>
    rw [e] at h'
    intro Hk1 H1 v x1 S1 r1
    obtain ⟨Hk2, x, ρ2, x2, S2, r2, h2⟩ := h' Hk1 H1 v x1 S1 r1
    cases x with
    | bl b => exact ⟨b, RV.bl.mp r2, h2 _ _ (Ex.refl _) S2.1⟩
    | _ => exact h2.elim
theorem mt_cmp {op : CmpOp} {f : MV → MV → Option MV} {r : R2} {a b : Expr} {ma mb : ME} {pos : Pos} (ho : OpR X (compareOp op) r) (o : OpS c.K f r) (ha : PE X a (rdE c ma)) (hb : PE X b (rdE c mb)) (hm : behindInMarks op b = false) :
    PT X (.Compare a [op] [b] pos) (rdT c (mTest (mOp f ma mb))) := PTw (pt_cmpR ho ha hb hm) fun σ H Q h => rd_op (Q := fun x H' => ∃ k, x = .bl k ∧ Q k H') o (rd_test h)
theorem mt_val {e : Expr} {m : ME} (h : PE X e (rdE c m)) (he : ∀ whole, isTrue e X.env whole = (do let v ← whole; standAt e.pos; holding [v] (truthy v)) := by intro _; rfl) : PT X e (rdT c (mTest m)) :=
  PTw (pt_val h he) fun σ H Q h => rd_test h
def mAndT (a b : MT) : MT := fun ρ => (a ρ).bind fun x ρ1 => if x then b ρ1 else .ok (false, ρ1)
def mOrT (a b : MT) : MT := fun ρ => (a ρ).bind fun x ρ1 => if x then .ok (true, ρ1) else b ρ1
def mNotT (a : MT) : MT := fun ρ => (a ρ).bind fun x ρ1 => .ok (!x, ρ1)
def mBv (t : MT) : ME := fun ρ => (t ρ).bind fun x ρ1 => .ok (.bl x, ρ1)
theorem rd_andT {a b : MT} {σ : St} {H : Hp} {Q : Bool → Hp → Prop} (h : rdT c (mAndT a b) σ H Q) : tAnd (rdT c a) (rdT c b) σ H Q := by
  obtain ⟨F, Hk, bp, ρ, S, h⟩ := h
  refine rdTw (bT postT S h) fun k H1 ⟨Hk1, ρ1, x1, S1, h1⟩ => ?_
  cases k with
  | true => rw [if_pos rfl] at h1 ⊢; exact ⟨F, Hk1, bp, ρ1, S1, h1⟩
  | false => rw [if_neg (by decide)] at h1 ⊢; exact h1 _ _ (Ex.refl _) S1.1
theorem rd_orT {a b : MT} {σ : St} {H : Hp} {Q : Bool → Hp → Prop} (h : rdT c (mOrT a b) σ H Q) : tOr (rdT c a) (rdT c b) σ H Q := by
  obtain ⟨F, Hk, bp, ρ, S, h⟩ := h
  refine rdTw (bT postT S h) fun k H1 ⟨Hk1, ρ1, x1, S1, h1⟩ => ?_
  cases k with
  | true => rw [if_pos rfl] at h1 ⊢; exact h1 _ _ (Ex.refl _) S1.1
  | false => rw [if_neg (by decide)] at h1 ⊢; exact ⟨F, Hk1, bp, ρ1, S1, h1⟩
theorem rd_notT {a : MT} {σ : St} {H : Hp} {Q : Bool → Hp → Prop} (h : rdT c (mNotT a) σ H Q) : tNot (rdT c a) σ H Q := by
  obtain ⟨F, Hk, bp, ρ, S, h⟩ := h
  exact rdTw (bT postT S h) fun k H1 ⟨Hk1, ρ1, x1, S1, h1⟩ => h1 _ _ (Ex.refl _) S1.1
theorem mw_one_or {a : Expr} {m : MT} {pos : Pos} (h : PT X a (rdT c m)) : PW X (.BoolOp .Or [a] pos) (rdT c m) := pw_or1 h
theorem mw_or {a b : Expr} {r : List Expr} {m n : MT} {pos : Pos} (h : PT X a (rdT c m)) (g : PW X (.BoolOp .Or (b :: r) pos) (rdT c n)) : PW X (.BoolOp .Or (a :: b :: r) pos) (rdT c (mOrT m n)) := PWw (pw_or h g) fun _ _ _ q => rd_orT q
theorem mt_not {a : Expr} {m : MT} {pos : Pos} (h : PT X a (rdT c m)) : PT X (.UnaryOp .Not a pos) (rdT c (mNotT m)) := PTw (pt_not h) fun _ _ _ q => rd_notT q
theorem okBv {F Hk : Hp} {bp : List (Nat × Addr)} {σ : St} {Q : VK} {r : Res (Bool × Env)} (h : okT c F Hk bp σ (fun k H => Q (.bl k) H) r) : okE c F Hk bp σ Q (r.bind fun x ρ1 => .ok (.bl x, ρ1)) := by
  cases r with
  | ok a =>
    intro Hk2 H2 v x S rv
    rw [RV.bl.mp rv]
    exact h Hk2 H2 x S
  | exc e ρ => exact h
  | stuck => exact h
theorem rdBv {t : MT} {σ : St} {H : Hp} {Q : VK} (h : rdT c t σ H fun k H1 => Q (.bl k) H1) : rdE c (mBv t) σ H Q := let ⟨F, Hk, bp, ρ, S, q⟩ := h; ⟨F, Hk, bp, ρ, S, okBv q⟩
theorem rdBv' {t : MT} {σ : St} {H : Hp} {Q : VK} (h : rdE c (mBv t) σ H Q) : rdT c t σ H fun k H1 => Q (.bl k) H1 := by
  obtain ⟨F, Hk, bp, ρ, S, h⟩ := h
  exact rdTw (bT postE S h) fun k H1 ⟨Hk1, ρ1, x1, S1, h1⟩ => h1 _ _ _ (Ex.refl _) S1.1 (RV.bl.mpr rfl)
end
end Tm
set_option Elab.async false
set_option linter.all false
set_option maxRecDepth 100000
set_option maxHeartbeats 2000000
namespace Tm
open PySem L2
open Evl (Ex ex_rd ex_l ex_t)
section
variable {X : Cx} {c : Ct}
theorem rd_oneV {a : ME} {σ : St} {H : Hp} {Q : VK} (h : rdE c (mBv (mTest a)) σ H Q) : rdE c a σ H Q := rdw (rd_test (rdBv' h)) fun v H1 ⟨k, e, q⟩ => by rw [e]; exact q
theorem me_one {op : BoolOp} {a : Expr} {m : ME} {pos : Pos} (h : PE X a (rdE c m)) : PE X (.BoolOp op [a] pos) (rdE c (mBv (mTest m))) := PEw (pe_one h) fun _ _ _ q => rd_oneV q
theorem me_and {a b : Expr} {r : List Expr} {m : ME} {t : MT} {pos : Pos} (h : PE X a (rdE c m)) (g : PE X (.BoolOp .And (b :: r) pos) (rdE c (mBv t))) : PE X (.BoolOp .And (a :: b :: r) pos) (rdE c (mBv (mAndT (mTest m) t))) :=
  PEw (pe_and h g) fun σ H Q q => rdw (rd_test (rd_andT (rdBv' q))) fun v H1 ⟨k, e, q⟩ => ⟨k, e, by
    cases k with
    | true => rw [if_pos rfl] at q ⊢; exact rdBv q
    | false => rw [if_neg (by decide)] at q ⊢; exact q⟩
theorem me_not {a : Expr} {m : ME} {pos : Pos} (h : PE X a (rdE c m)) : PE X (.UnaryOp .Not a pos) (rdE c (mBv (mNotT (mTest m)))) :=
  PEw (pe_not h) fun σ H Q q => rdw (rd_test (rd_notT (rdBv' q))) fun v H1 ⟨k, e, q⟩ => ⟨k, e, q⟩
def mNil : MA := fun ρ => .ok ([], ρ)
def mCons (a : ME) (b : MA) : MA := fun ρ => (a ρ).bind fun x ρ1 => (b ρ1).bind fun xs ρ2 => .ok (x :: xs, ρ2)
theorem ma_nil : PA X [] (rdA c mNil) := PAw pa_nil fun σ H Q h => by
  obtain ⟨F, Hk, bp, ρ, S, h⟩ := h
  exact h _ _ _ (Ex.refl _) S.1 (RVs.nil.mpr rfl)
theorem ma_cons {e : Expr} {es : List Expr} {a : ME} {b : MA} (ha : PE X e (rdE c a)) (hb : PA X es (rdA c b)) (hs : starEach (e :: es) X.env = (false, eval e X.env) :: starEach es X.env := by rfl) : PA X (e :: es) (rdA c (mCons a b)) :=
  PAw (pa_cons ha hb hs) fun σ H Q h => by
    obtain ⟨F, Hk, bp, ρ, S, h⟩ := h
    refine rdw (bE postA S h) fun v H1 ⟨Hk1, x, ρ1, x1, S1, r1, h1⟩ => ?_
    refine rdAw (bA postA S1 h1) fun vs H2 ⟨Hk2, xs, ρ2, x2, S2, r2, h2⟩ => ?_
    exact h2 _ _ _ (Ex.refl _) S2.1 (RVs.cons.mpr ⟨v, vs, rfl, RV.mono x2 _ _ r1, r2⟩)
def mTup (a : MA) : ME := fun ρ => (a ρ).bind fun xs ρ1 => if szOk xs.length then .ok (.tup xs, ρ1) else .stuck
def mLst (a : MA) : ME := fun ρ => (a ρ).bind fun xs ρ1 => if szOk xs.length then .ok (.lst xs, ρ1) else .stuck
def mLstO (a : MA) : ME := fun ρ => (a ρ).bind fun xs ρ1 => if szOk xs.length then .ok (.own xs, ρ1) else .stuck
theorem me_tup {es : List Expr} {a : MA} {pos : Pos} {k : Nat} (h : PA X es (rdA c a)) : PE X (.Tuple es k pos) (rdE c (mTup a)) := PEw (pe_tup h) fun σ H Q h => by
  obtain ⟨F, Hk, bp, ρ, S, h⟩ := h
  refine rdAw (bA postE S h) fun vs H1 ⟨Hk1, xs, ρ1, x1, S1, r1, h1⟩ => ?_
  split at h1
  · rename_i hz
    refine ⟨by rw [r1.length]; exact szOk_iff.mp hz, fun p hp => h1 _ _ _ (Ex.new (S1.1.ex.back hp)) (S1.1.new hp) (RV.tup.mpr ⟨p, vs, rfl, SqT.of upd_same, r1.mono (Ex.new (S1.1.ex.back hp))⟩)⟩
  · exact h1.elim
theorem me_lst {es : List Expr} {a : MA} {pos : Pos} (h : PA X es (rdA c a)) : PE X (.List es pos) (rdE c (mLst a)) := PEw (pe_lst h) fun σ H Q h => by
  obtain ⟨F, Hk, bp, ρ, S, h⟩ := h
  refine rdAw (bA postE S h) fun vs H1 ⟨Hk1, xs, ρ1, x1, S1, r1, h1⟩ => ?_
  split at h1
  · rename_i hz
    refine ⟨by rw [r1.length]; exact szOk_iff.mp hz, fun p hp => h1 _ _ _ (Ex.new (S1.1.ex.back hp)) (S1.1.new hp) (RV.lst.mpr ⟨p, vs, rfl, upd_same, r1.mono (Ex.new (S1.1.ex.back hp))⟩)⟩
  · exact h1.elim
theorem mo_lst {es : List Expr} {a : MA} {pos : Pos} (h : PA X es (rdA c a)) : PE X (.List es pos) (rdO c (mLstO a)) := PEw (pe_lst h) fun σ H Q h => by
  obtain ⟨F, Hk, bp, ρ, S, h⟩ := h
  refine rdAw (bA postO S h) fun vs H1 ⟨Hk1, xs, ρ1, x1, S1, r1, h1⟩ => ?_
  split at h1
  · rename_i hz
    exact ⟨by rw [r1.length]; exact szOk_iff.mp hz, fun p hp => h1 _ _ _ (Ex.refl _) (S1.1.pushOwn hp r1)⟩
  · exact h1.elim
theorem me_ix {a b : Expr} {ma mb : ME} {pos : Pos} (ha : PE X a (rdE c ma)) (hb : PE X b (rdE c mb)) (hK : c.K = X.K := by rfl) (hs : PlainIx b := by exact fun _ _ => rfl) : PE X (.Subscript a b pos) (rdE c (mOp fIx ma mb)) :=
  PEw (pe_ix ix_seq ha hb hs) fun _ _ _ q => rd_op (by rw [hK]; exact os_ix) q
def okP (c : Ct) (F Hk : Hp) (bp : List (Nat × Addr)) (σ : St) (Q : Option Int → Hp → Prop) : Res (Option Int × Env) → Prop
  | .ok (x, ρ') => ∀ Hk' H', Ex Hk Hk' → RS c.K F Hk' H' bp σ ρ' → Q x H'
  | .exc e ρ' => Wish c F Hk bp σ e ρ'
  | .stuck => False
theorem okP.mono {F Hk Hk' : Hp} {bp : List (Nat × Addr)} {σ : St} {Q : Option Int → Hp → Prop} {r : Res (Option Int × Env)} (x : Ex Hk Hk') (h : okP c F Hk bp σ Q r) : okP c F Hk' bp σ Q r := by
  cases r with
  | ok a => exact fun Hk2 H2 x2 => h Hk2 H2 (x.trans x2)
  | exc e ρ => exact Wish.mono x h
  | stuck => exact h
section
variable {a b : Expr} {ma mb : ME} {pos : Pos}
theorem me_add (ha : PE X a (rdE c ma)) (hb : PE X b (rdE c mb)) (hK : c.K = X.K := by rfl) : PE X (.BinOp a .Add b pos) (rdE c (mOp fAdd ma mb)) := me_op op_addM (by rw [← hK]; exact os_add) ha hb
theorem me_sub (ha : PE X a (rdE c ma)) (hb : PE X b (rdE c mb)) : PE X (.BinOp a .Sub b pos) (rdE c (mOp fSub ma mb)) := me_op op_sub os_sub ha hb
theorem me_mul (ha : PE X a (rdE c ma)) (hb : PE X b (rdE c mb)) (hK : c.K = X.K := by rfl) : PE X (.BinOp a .Mult b pos) (rdE c (mOp fMul ma mb)) := me_op op_mulM (by rw [← hK]; exact os_mul) ha hb
theorem me_div (ha : PE X a (rdE c ma)) (hb : PE X b (rdE c mb)) : PE X (.BinOp a .FloorDiv b pos) (rdE c (mOp fDiv ma mb)) := me_op op_divM os_div ha hb
theorem me_mod (ha : PE X a (rdE c ma)) (hb : PE X b (rdE c mb)) : PE X (.BinOp a .Mod b pos) (rdE c (mOp fMod ma mb)) := me_op op_modN os_mod ha hb
theorem me_pow (ha : PE X a (rdE c ma)) (hb : PE X b (rdE c mb)) : PE X (.BinOp a .Pow b pos) (rdE c (mOp fPow ma mb)) := me_op op_pow os_pow ha hb
end
end
end Tm
set_option Elab.async false
set_option linter.all false
set_option maxRecDepth 100000
set_option maxHeartbeats 2000000
namespace Tm
open PySem L2
open Evl (Ex ex_rd ex_l ex_t)
section
variable {X : Cx} {c : Ct}
abbrev MG := MV → Env → Option Env
def okG (c : Ct) (F Hk : Hp) (bp : List (Nat × Addr)) (Q : St → Hp → Prop) : Option Env → Prop
  | some ρ' => ∀ Hk' H' σ', Ex Hk Hk' → RS c.K F Hk' H' bp σ' ρ' → Q σ' H'
  | none => False
def rdG (c : Ct) (m : MG) : TG := fun v σ H Q => ∃ F Hk bp ρ x, At c F Hk H bp σ ρ ∧ RV c.K Hk x v ∧ okG c F Hk bp Q (m x ρ)
def rdGs (c : Ct) (m : List MV → Env → Option Env) : TGs := fun vs σ H Q => ∃ F Hk bp ρ xs, At c F Hk H bp σ ρ ∧ RVs c.K Hk xs vs ∧ okG c F Hk bp Q (m xs ρ)
theorem PGw {e : Expr} {t t' : TG} (h : PG X e t) (w : ∀ v σ H Q, t' v σ H Q → t v σ H Q) : PG X e t' := ⟨fun pins s σ H v u Q I r q => h.run pins s σ H v u Q I r (w v σ H Q q)⟩
theorem PGsw {e : List Expr} {t t' : TGs} (h : PGs X e t) (w : ∀ v σ H Q, t' v σ H Q → t v σ H Q) : PGs X e t' := ⟨fun pins s σ H v u Q I r q => h.run pins s σ H v u Q I r (w v σ H Q q)⟩
def gSet (i : Nat) : MG := fun x ρ => if i < ρ.length then some (ρ.set i (some x)) else none
theorem nb {bp : List (Nat × Addr)} {bs : List Nat} {i : Nat} (e : bp.map (·.1) = bs) (h : bs.contains i = false) : ∀ q ∈ bp, q.1 ≠ i := fun q hq z => by
  have m : i ∈ bs := by rw [← e, ← z]; exact List.mem_map.mpr ⟨q, hq, rfl⟩
  rw [List.contains_eq_mem] at h
  simp [m] at h
theorem rd_gname {i : Nat} (hb : c.bs.contains i = false) {v : V} {σ : St} {H : Hp} {Q : St → Hp → Prop} (h : rdG c (gSet i) v σ H Q) : gName i v σ H Q := by
  obtain ⟨F, Hk, bp, ρ, y, S, r, h⟩ := h
  unfold gSet at h
  split at h
  · rename_i hl
    exact h _ _ _ (Ex.refl _) (S.1.set hl r (nb S.2.1 hb))
  · exact h.elim
theorem mg_name {i : Nat} {x : Str} {pos : Pos} (hN : X.N.Nodup) (hi : X.N[i]? = some x) (hx : Loc X.env.scope x) (hb : c.bs.contains i = false := by rfl) (hf : X.fn x = true ∨ X.env.scope.names.lookup x = some .local := by first | exact .inl rfl | exact .inr rfl | assumption) : PG X (.Name x pos) (rdG c (gSet i)) :=
  PGw (pg_name hN hi hx hf) fun v σ H Q h => rd_gname hb h
def gsNil : List MV → Env → Option Env := fun xs ρ => match xs with | [] => some ρ | _ => none
def gsCons (a : MG) (b : List MV → Env → Option Env) : List MV → Env → Option Env := fun xs ρ => match xs with
  | x :: r => (match a x ρ with | some ρ1 => b r ρ1 | none => none)
  | [] => none
def gTp (n : Nat) (b : List MV → Env → Option Env) : MG := fun x ρ => match x with
  | .tup xs => if xs.length = n then b xs ρ else none
  | .lst xs => if xs.length = n then b xs ρ else none
  | _ => none
theorem PGor {e : Expr} {t t' : TG} (h : PG X e t) (g : PG X e t') : PG X e fun v σ H Q => t v σ H Q ∨ t' v σ H Q := ⟨fun pins s σ H v u Q I r q => by
  rcases q with q | q
  · exact h.run pins s σ H v u Q I r q
  · exact g.run pins s σ H v u Q I r q⟩
theorem mgs_nil : PGs X [] (rdGs c gsNil) := PGsw pgs_nil fun vs σ H Q ⟨F, Hk, bp, ρ, xs, S, r, h⟩ => by
  cases xs with
  | nil => exact ⟨RVs.nil.mp r, h _ _ _ (Ex.refl _) S.1⟩
  | cons x xs => exact h.elim
theorem mgs_cons {e : Expr} {es : List Expr} {a : MG} {b : List MV → Env → Option Env} (h1 : PG X e (rdG c a)) (h2 : PGs X es (rdGs c b)) (hs : (assignEach (e :: es) X.env).map (·.2) = assign e X.env :: (assignEach es X.env).map (·.2) := by rfl) : PGs X (e :: es) (rdGs c (gsCons a b)) := PGsw (pgs_cons h1 h2 hs) fun vs σ H Q ⟨F, Hk, bp, ρ, xs, S, r, h⟩ => by
  cases xs with
  | nil => exact h.elim
  | cons x xs =>
    obtain ⟨v, us, rfl, r1, r2⟩ := RVs.cons.mp r
    refine ⟨v, us, rfl, F, Hk, bp, ρ, x, S, r1, ?_⟩
    have h : okG c F Hk bp Q (match a x ρ with | some ρ1 => b xs ρ1 | none => none) := h
    cases e : a x ρ with
    | none => rw [e] at h; exact h
    | some ρ1 =>
      rw [e] at h
      intro Hk1 H1 σ1 x1 S1
      refine ⟨F, Hk1, bp, ρ1, xs, ⟨S1, S.2⟩, r2.mono x1, ?_⟩
      have h : okG c F Hk bp Q (b xs ρ1) := h
      cases e2 : b xs ρ1 with
      | none => rw [e2] at h; exact h
      | some ρ2 => rw [e2] at h; exact fun Hk2 H2 σ2 x2 => h Hk2 H2 σ2 (x1.trans x2)
theorem mg_tup {es : List Expr} {k : Nat} {b : List MV → Env → Option Env} {n : Nat} {pos : Pos} (hc : X.calm = true) (h : PGs X es (rdGs c b)) (hK : c.K = X.K := by rfl)
    (hn : (assignEach es X.env).length = n := by rfl) (hst : (assignEach es X.env).findIdx? (·.1) = none := by rfl) : PG X (.Tuple es k pos) (rdG c (gTp n b)) := PGw (PGor (pg_tup hc h hn hst) (pg_unl hc h hn hst)) fun v σ H Q ⟨F, Hk, bp, ρ, x, S, r, h⟩ => by
  unfold gTp at h
  split at h
  · split at h
    · rename_i xs hl
      obtain ⟨a, vs, rfl, h1, s1⟩ := RV.tup.mp r
      rw [← hK]
      exact .inl ⟨a, vs, rfl, ex_t S.1.ex h1, by rw [s1.length]; exact hl, F, Hk, bp, ρ, xs, S, s1, h⟩
    · exact h.elim
  · split at h
    · rename_i xs hl
      obtain ⟨a, vs, rfl, h1, s1⟩ := RV.lst.mp r
      rw [← hK]
      exact .inr ⟨a, vs, rfl, SqL.of (S.1.ex _ _ h1), by rw [s1.length]; exact hl, F, Hk, bp, ρ, xs, S, s1, h⟩
    · exact h.elim
  · exact h.elim
def mAsg (a : ME) (g : MG) : MS := fun ρ => (a ρ).bind fun x ρ1 => match g x ρ1 with | some ρ2 => .ok (.nx, ρ2) | none => .stuck
theorem rd_asg {a : ME} {g : MG} {D : Ends} {σ : St} {H : Hp} (h : rdS c (mAsg a g) D σ H) : tAsg (rdE c a) (rdG c g) D σ H := by
  obtain ⟨F, Hk, bp, ρ, S, h⟩ := h
  refine rdw (bE (postS (σ := σ)) S h) fun v H1 ⟨Hk1, x, ρ1, x1, S1, r1, h1⟩ => ⟨F, Hk1, bp, ρ1, x, S1, r1, ?_⟩
  have h1 : okS c F Hk1 bp D (match g x ρ1 with | some ρ2 => .ok (.nx, ρ2) | none => .stuck) := h1
  cases e : g x ρ1 with
  | none => rw [e] at h1; exact h1
  | some ρ2 => rw [e] at h1; exact h1
theorem ms_asg {tg e : Expr} {a : ME} {g : MG} {pos : Pos} (he : PE X e (rdE c a)) (hg : PG X tg (rdG c g)) (hs : swapsWithSole [tg] e pos.line X.env = pure false := by rfl) (hw : swappedStores [tg] e X.env = pure none := by rfl)
    (h1 : (assignEach [tg] X.env).map (·.2) = [assign tg X.env] := by rfl) : PS X (.Assign [tg] e pos) (rdS c (mAsg a g)) := PSw (ps_asg he hg hs hw h1) fun _ _ _ h => rd_asg h
theorem rd_set {i : Nat} (hb : c.bs.contains i = false) {a : ME} {D : Ends} {σ : St} {H : Hp} (h : rdS c (mAsg a (gSet i)) D σ H) : tAsg (rdE c a) (gName i) D σ H := rdw (rd_asg h) fun _ _ q => rd_gname hb q
theorem ms_set {i : Nat} {x : Str} {e : Expr} {a : ME} {pos pos' : Pos} (hN : X.N.Nodup) (hi : X.N[i]? = some x) (hx : Loc X.env.scope x) (he : PE X e (rdE c a)) (hb : c.bs.contains i = false := by rfl) (hs : swapsWith e (some (.Name x pos')) pos.line X.env = pure false := by rfl)
    (hf : X.fn x = true ∨ X.env.scope.names.lookup x = some .local := by first | exact .inl rfl | exact .inr rfl | assumption) : PS X (.Assign [.Name x pos'] e pos) (rdS c (mAsg a (gSet i))) := PSw (ps_set hN hi hx he hs hf) fun _ _ _ h => rd_set hb h
def mSetO (i : Nat) (a : ME) : MS := fun ρ => (a ρ).bind fun x ρ1 => if i < ρ1.length then .ok (.nx, ρ1.set i (some x)) else .stuck
theorem rd_setO {i : Nat} {a : ME} {D : Ends} {σ : St} {H : Hp} (hb : c.bs.contains i = false) (h : rdS c (mSetO i a) D σ H) : tAsg (rdO c a) (gName i) D σ H := by
  obtain ⟨F, Hk, bp, ρ, S, h⟩ := h
  refine rdOw (bO (postS (σ := σ)) S h) fun v H1 ⟨Hk1, x, ρ1, x1, S1, h1⟩ => ?_
  split at h1
  · rename_i hl
    refine h1 _ _ _ (Ex.refl _) (S1.take hl fun q hq => ⟨nb S.2.1 hb q hq, ?_⟩)
    have l1 : σ.length = ρ1.length := by have := S1.len; simpa using this
    rw [← l1]
    exact lt_get (S.1.bor q hq)
  · exact h1.elim
theorem ms_setO {i : Nat} {x : Str} {e : Expr} {a : ME} {pos pos' : Pos} (hN : X.N.Nodup) (hi : X.N[i]? = some x) (hx : Loc X.env.scope x) (he : PE X e (rdO c a)) (hb : c.bs.contains i = false := by rfl) (hs : swapsWith e (some (.Name x pos')) pos.line X.env = pure false := by rfl)
    (hf : X.fn x = true ∨ X.env.scope.names.lookup x = some .local := by first | exact .inl rfl | exact .inr rfl | assumption) : PS X (.Assign [.Name x pos'] e pos) (rdS c (mSetO i a)) := PSw (ps_set hN hi hx he hs hf) fun _ _ _ h => rd_setO hb h
def mPass : MS := fun ρ => .ok (.nx, ρ)
def mSeq (a b : MS) : MS := fun ρ => (a ρ).bind fun f ρ1 => match f with | .nx => b ρ1 | f => .ok (f, ρ1)
theorem okS.seq {F Hk : Hp} {bp : List (Nat × Addr)} {D : Ends} {b : MS} (eb : bp.map (·.1) = c.bs ∧ c.J F bp) {r : Res (Fl × Env)} (h : okS c F Hk bp D (r.bind fun f ρ1 => match f with | .nx => b ρ1 | f => .ok (f, ρ1))) : okS c F Hk bp { D with nx := rdS c b D } r := by
  cases r with
  | stuck => exact h
  | exc e ρ => exact h
  | ok q =>
    obtain ⟨f, ρ1⟩ := q
    cases f with
    | nx => exact fun Hk1 H1 σ1 x1 S1 => ⟨F, Hk1, bp, ρ1, ⟨S1, eb⟩, okS.mono x1 h⟩
    | br => exact h
    | ct => exact h
    | rt x => exact h
theorem rd_seq {a b : MS} {D : Ends} {σ : St} {H : Hp} (h : rdS c (mSeq a b) D σ H) : tSeq (rdS c a) (rdS c b) D σ H := by
  obtain ⟨F, Hk, bp, ρ, S, h⟩ := h
  exact ⟨F, Hk, bp, ρ, S, okS.seq S.2 h⟩
theorem mss_nil : PSs X [] (rdS c mPass) := PSsw pss_nil fun D σ H ⟨F, Hk, bp, ρ, S, h⟩ => h _ _ _ (Ex.refl _) S.1
theorem mss_one {st : Stmt} {a : MS} (h : PS X st (rdS c a)) : PSs X [st] (rdS c a) := pss_one h
theorem mss_cons {st : Stmt} {r : List Stmt} {a b : MS} (h : PS X st (rdS c a)) (g : PSs X r (rdS c b)) : PSs X (st :: r) (rdS c (mSeq a b)) := PSsw (pss_cons h g) fun _ _ _ q => rd_seq q
def mIfS (t : MT) (a b : MS) : MS := fun ρ => (t ρ).bind fun x ρ1 => if x then a ρ1 else b ρ1
theorem ms_if {t : Expr} {a b : List Stmt} {mt : MT} {ma mb : MS} {pos : Pos} (ht : PT X t (rdT c mt)) (ha : PSs X a (rdS c ma)) (hb : PSs X b (rdS c mb)) : PS X (.If t a b pos) (rdS c (mIfS mt ma mb)) := PSw (ps_if ht ha hb) fun D σ H ⟨F, Hk, bp, ρ, S, h⟩ => by
  refine rdTw (bT (postS (σ := σ)) S h) fun k H1 ⟨Hk1, ρ1, x1, S1, h1⟩ => ?_
  cases k with
  | true => rw [if_pos rfl] at h1 ⊢; exact ⟨F, Hk1, bp, ρ1, S1, h1⟩
  | false => rw [if_neg (by decide)] at h1 ⊢; exact ⟨F, Hk1, bp, ρ1, S1, h1⟩
def mRet (a : ME) : MS := fun ρ => (a ρ).bind fun x ρ1 => .ok (.rt x, ρ1)
theorem ms_ret {e : Expr} {a : ME} {pos : Pos} (h : PE X e (rdE c a)) : PS X (.Return (some e) pos) (rdS c (mRet a)) := PSw (ps_ret h) fun D σ H ⟨F, Hk, bp, ρ, S, h⟩ =>
  rdw (bE (postS (σ := σ)) S h) fun v H1 ⟨Hk1, x, ρ1, x1, S1, r1, h1⟩ => h1 _ _ _ _ (Ex.refl _) (fun q hq => lt_get (S.1.bor q hq)) (S1.1.push r1)
theorem ms_retO {e : Expr} {a : ME} {pos : Pos} (h : PE X e (rdO c a)) : PS X (.Return (some e) pos) (rdS c (mRet a)) := PSw (ps_ret h) fun D σ H ⟨F, Hk, bp, ρ, S, h⟩ =>
  rdOw (bO (postS (σ := σ)) S h) fun v H1 ⟨Hk1, x, ρ1, x1, S1, h1⟩ => h1 _ _ _ _ (Ex.refl _) (fun q hq => lt_get (S.1.bor q hq)) S1
def mDrop (a : ME) : MS := fun ρ => (a ρ).bind fun _ ρ1 => .ok (.nx, ρ1)
theorem ms_expr {e : Expr} {a : ME} {pos : Pos} (h : PE X e (rdE c a)) (hs : swapsWith e none pos.line X.env = pure false := by rfl) : PS X (.Expr e pos) (rdS c (mDrop a)) := PSw (ps_expr h hs) fun D σ H ⟨F, Hk, bp, ρ, S, h⟩ =>
  rdw (bE (postS (σ := σ)) S h) fun v H1 ⟨Hk1, x, ρ1, x1, S1, r1, h1⟩ => h1 _ _ _ (Ex.refl _) S1.1
def mMove (i : Nat) : ME := fun ρ => match ρ[i]? with
  | some (some (.obj _ _)) => .stuck
  | some (some x) => .ok (x, ρ.set i none)
  | _ => .stuck
theorem rd_move {i : Nat} (hb : c.bs.contains i = false) {σ : St} {H : Hp} {Q : VK} (h : rdO c (mMove i) σ H Q) : tVar i σ H Q := by
  obtain ⟨F, Hk, bp, ρ, S, h⟩ := h
  unfold mMove at h
  split at h
  · exact h.elim
  · rename_i x n hx
    obtain ⟨ow, s⟩ := S.1.ow
    obtain ⟨v, ev, ov⟩ := s.s i x hx
    have li := lt_get hx
    refine ⟨v, ev, h Hk H v (Ex.refl _) ?_⟩
    refine ⟨by simp [S.1.len], S.1.ex, S.1.fr, S.1.frk, ⟨put (put ow i []) ρ.length (ow i), ?_⟩, S.1.bor_app _⟩
    have nl : i ≠ ρ.length := Nat.ne_of_lt li
    have mem : ∀ j a, a ∈ put (put ow i []) ρ.length (ow i) j → (j = ρ.length ∧ a ∈ ow i) ∨ (j ≠ i ∧ j < ρ.length ∧ a ∈ ow j) := fun j a h => by
      by_cases e : j = ρ.length
      · rw [e, put_same] at h; exact .inl ⟨e, h⟩
      · rw [put_ne e] at h
        by_cases e2 : j = i
        · rw [e2, put_same] at h; cases h
        · rw [put_ne e2] at h
          exact .inr ⟨e2, s.w j (by intro z; rw [z] at h; cases h), h⟩
    refine ⟨fun j y hj => ?_, fun j a hj => ?_, fun j hj => ?_, fun j k a hjk hj hk => ?_⟩
    · rcases app_get hj with ⟨e1, e2⟩ | ⟨lt, e2⟩
      · cases e2
        rw [List.length_set] at e1
        refine ⟨v, by rw [e1, ← S.1.len]; simp, ?_⟩
        rw [e1, put_same]; exact ov
      · rcases set_get e2 with ⟨_, e3⟩ | ⟨ne, e3⟩
        · cases e3
        · obtain ⟨w, w1, w2⟩ := s.s j y e3
          have lj := lt_get e3
          exact ⟨w, by rw [List.getElem?_append_left (by rw [S.1.len]; exact lj)]; exact w1, by rw [put_ne (Nat.ne_of_lt lj), put_ne ne]; exact w2⟩
    · rcases mem j a hj with ⟨_, m⟩ | ⟨_, _, m⟩
      · exact s.f i a m
      · exact s.f j a m
    · cases e : put (put ow i []) ρ.length (ow i) j with
      | nil => exact (hj e).elim
      | cons a r =>
        rcases mem j a (by rw [e]; simp) with ⟨e, _⟩ | ⟨_, l, _⟩
        · rw [e]; simp
        · simp; omega
    · rcases mem j a hj with ⟨e1, m⟩ | ⟨e1, l1, m⟩ <;> rcases mem k a hk with ⟨e2, m2⟩ | ⟨e2, l2, m2⟩
      · exact hjk (e1.trans e2.symm)
      · exact s.d i k a (Ne.symm e2) m m2
      · exact s.d j i a e1 m m2
      · exact s.d j k a hjk m m2
  · exact h.elim
theorem mo_var {i : Nat} {x : Str} {pos : Pos} (hN : X.N[i]? = some x) (hv : Vis X.env.scope x) (hb : c.bs.contains i = false := by rfl) (hd : (x == ("__debug__" : Str)) = false := by decide) (hcd : (x == ("__classdict__" : Str)) = false := by decide) : PE X (.Name x pos) (rdO c (mMove i)) :=
  PEw (pe_var hN hv hd hcd) fun _ _ _ h => rd_move hb h
end
end Tm
set_option Elab.async false
set_option linter.all false
set_option maxRecDepth 100000
set_option maxHeartbeats 2000000
namespace Tm
open PySem L2 PySem.Spec PyProof.Rows
structure ZSrc (P : Program) (w : World) (K : PySem.W.Frag) (it : Addr) (fp : List Addr) (S : Hp → List V → Prop) (tn : Nat → Heap → Prop) : Prop where
  obj : ∀ i h, tn i h → ∃ o, h.get? it = some o ∧ ∀ v, o.data ≠ .cell v
  keep : ∀ i h h', tn i h → (∀ o, h.get? it = some o → h'.get? it = some o) → tn i h'
  inj : ∀ (X : Cx), X.K = K → ∀ pins (s : Shared) σ H xs ys, Inv X pins σ H s → S H xs → S H ys → xs = ys
  draw : ∀ (X : Cx), X.prog = P → X.w = w → X.K = K → X.calm = true → ∀ pins (s : Shared) σ H xs i, Inv X pins σ H s → S H xs → tn i s.heap →
    ∃ (Y : Nat → Value → Prop) (St : Nat → Heap → Prop), Draws P w X.A.in1 it fp xs.length Y St ∧ St i s.heap ∧ (∀ j u, Y j u → ∃ x, xs[j]? = some x ∧ RelV x u) ∧ ∀ j h, St j h → tn j h
def ItzG (S1 S2 : Hp → List V → Prop) : It :=
  ⟨fun i H => ∃ (l1 l2 : List V) (x y : V), S1 H l1 ∧ S2 H l2 ∧ l1[i]? = some x ∧ l2[i]? = some y,
    fun i H v H' => ∃ p x y, v = .ref p ∧ H p = none ∧ H' = upd H p (.tup [x, y]) ∧ (∀ l, S1 H l → l[i]? = some x) ∧ ∀ l, S2 H l → l[i]? = some y,
    fun i H => ∃ l1 l2 : List V, S1 H l1 ∧ S2 H l2 ∧ (i = l1.length ∧ l1.length ≤ l2.length ∨ i = l2.length ∧ l2.length ≤ l1.length)⟩
section
variable {P : Program} {w : World} {K : PySem.W.Frag} {elts : List Expr} {kk : Nat} {tpos : Pos} {z TI TO i1 i2 : Addr} {f1 f2 : List Addr} {S1 S2 : Hp → List V → Prop} {tn1 tn2 : Nat → Heap → Prop}
theorem turn_zipG (D : ZipSep2 z TI TO i1 i2 f1 f2) (A1 : ZSrc P w K i1 f1 S1 tn1) (A2 : ZSrc P w K i2 f2 S2 tn2) :
    Turn P w K (.Tuple elts kk tpos) (ItzG S1 S2) [z, TI, TO, i1, i2] z (fun i h => (IsZip h z TI TO .none ∧ IsTupOf2 h TI (.ref i1) (.ref i2) ∧ ∃ x y, IsTupOf2 h TO x y) ∧ tn1 i h ∧ tn2 i h) where
  mem := List.mem_cons_self ..
  obj := by
    rintro i h ⟨⟨gz, gT, p0, q0, gO⟩, t1, t2⟩ c hc
    simp only [List.mem_cons, List.not_mem_nil, or_false] at hc
    rcases hc with rfl | rfl | rfl | rfl | rfl
    · exact ⟨_, gz, by intro v e; cases e⟩
    · exact ⟨_, gT, by intro v e; cases e⟩
    · exact ⟨_, gO, by intro v e; cases e⟩
    · exact A1.obj i h t1
    · exact A2.obj i h t2
  keep := by
    rintro i h h' ⟨⟨gz, gT, p0, q0, gO⟩, t1, t2⟩ hk
    exact ⟨⟨hk z (by simp) _ gz, hk TI (by simp) _ gT, p0, q0, hk TO (by simp) _ gO⟩, A1.keep i h h' t1 (hk i1 (by simp)), A2.keep i h h' t2 (hk i2 (by simp))⟩
  item := by
    intro X hP hw hK hc i pins s σ H E I hf st hg
    subst hP; subst hw; subst hK
    obtain ⟨⟨gz, gT, p0, q0, gO⟩, t1, t2⟩ := st
    obtain ⟨l1, l2, x, y, b1, b2, g1, g2⟩ := hg
    obtain ⟨Y1, St1, d1, e1, r1, k1⟩ := A1.draw X rfl rfl rfl hc pins s σ H l1 i I b1 t1
    obtain ⟨Y2, St2, d2, e2, r2, k2⟩ := A2.draw X rfl rfl rfl hc pins s σ H l2 i I b2 t2
    have m1 : i < l1.length := (List.getElem?_eq_some_iff.mp g1).1
    have m2 : i < l2.length := (List.getElem?_eq_some_iff.mp g2).1
    have zlt : z < s.heap.objs.size := Heap.lt_size gz
    refine wpAny_pyNext_zipD2_item D d1 d2 gz gT gO e1 e2 m1 m2 fun u1 u2 hp tk y1 y2 gz' gO' e1' e2' gN sz hk => ⟨_, rfl, ?_⟩
    obtain ⟨x', a1, v1⟩ := r1 i u1 y1
    obtain ⟨y', a2, v2⟩ := r2 i u2 y2
    rw [g1] at a1
    rw [g2] at a2
    cases a1
    cases a2
    refine wpAny_letOwnedTupleGo_zip (s := { s with heap := hp, toks := tk }) gz' fun hq gq sb => ?_
    have keep : ∀ c o, c ∉ [z, TI, TO, i1, i2] → s.heap.get? c = some o → hq.get? c = some o := by
      intro c o nc ec
      simp only [List.mem_cons, List.not_mem_nil, or_false, not_or] at nc
      exact (sb.2 c nc.1).trans (hk c o nc.1 nc.2.2.1 nc.2.2.2.1 nc.2.2.2.2 ec)
    have gT2 : IsTupOf2 hq s.heap.objs.size u1 u2 := (sb.2 _ (Nat.ne_of_gt zlt)).trans gN
    have new : ObjOk X.prog X.w (upd H s.heap.objs.size (.tup [x, y])) hq s.heap.objs.size (.tup [x, y]) :=
      ⟨by show 2 ≤ sizeLine; decide, [u1, u2], .cons v1 (.cons v2 .nil), ⟨_, gT2, rfl, _, rfl⟩⟩
    have I1 : Inv X pins σ (upd H s.heap.objs.size (.tup [x, y])) { s with heap := hq, toks := tk } := Inv.turnedNew I keep hf (Nat.le_refl _) new
    refine ⟨.ref s.heap.objs.size, _, I1, rfl, ⟨_, x, y, rfl, I.hok.fresh (Nat.le_refl _), rfl, fun l hl => ?_, fun l hl => ?_⟩, ⟨⟨gq, ?_, u1, u2, ?_⟩, ?_, ?_⟩, ?_⟩
    · rw [A1.inj X rfl pins s σ H l l1 I hl b1]; exact g1
    · rw [A2.inj X rfl pins s σ H l l2 I hl b2]; exact g2
    · exact (sb.2 TI D.TIz).trans (hk TI _ D.TIz D.TITO D.TIi1 D.TIi2 gT)
    · exact (sb.2 TO D.TOz).trans gO'
    · exact A1.keep _ hp hq (k1 _ _ e1') fun o e => (sb.2 i1 (Ne.symm D.zi1)).trans e
    · exact A2.keep _ hp hq (k2 _ _ e2') fun o e => (sb.2 i2 (Ne.symm D.zi2)).trans e
    · intro c hcm
      have clt : c < s.heap.objs.size := by
        simp only [List.mem_cons, List.not_mem_nil, or_false] at hcm
        rcases hcm with rfl | rfl | rfl | rfl | rfl
        · exact zlt
        · exact Heap.lt_size gT
        · exact Heap.lt_size gO
        · obtain ⟨o, eo, _⟩ := A1.obj i s.heap t1
          exact Heap.lt_size eo
        · obtain ⟨o, eo, _⟩ := A2.obj i s.heap t2
          exact Heap.lt_size eo
      rw [upd_ne (Nat.ne_of_lt clt)]
      exact (hf c hcm).1
  done := by
    intro X hP hw hK hc i pins s σ H E I hf st hg
    subst hP; subst hw; subst hK
    obtain ⟨⟨gz, gT, p0, q0, gO⟩, t1, t2⟩ := st
    obtain ⟨l1, l2, b1, b2, hend⟩ := hg
    obtain ⟨Y1, St1, d1, e1, r1, k1⟩ := A1.draw X rfl rfl rfl hc pins s σ H l1 i I b1 t1
    obtain ⟨Y2, St2, d2, e2, r2, k2⟩ := A2.draw X rfl rfl rfl hc pins s σ H l2 i I b2 t2
    refine wpAny_pyNext_zipD2_end D d1 d2 gz gT gO e1 e2 (by omega) (by omega) (by omega) fun hp tk hk => ⟨rfl, Inv.turnedL I (fun c o nc ec => ?_) hf⟩
    simp only [List.mem_cons, List.not_mem_nil, or_false, not_or] at nc
    exact hk c o nc.1 nc.2.2.1 nc.2.2.2.1 nc.2.2.2.2 ec
  self := fun A i s Q E st h => wpAny_pyIter_zip st.1.1 h
end
section
variable {P : Program} {w : World} {K : PySem.W.Frag}
theorem vals_back {xs : List V} {us : List Value} {j : Nat} {u : Value} (r : Vals xs us) (h : us[j]? = some u) : ∃ x, xs[j]? = some x ∧ RelV x u := by
  have lt : j < xs.length := by rw [r.length]; exact (List.getElem?_eq_some_iff.mp h).1
  obtain ⟨u', h1, h2⟩ := r.get (List.getElem?_eq_getElem lt)
  rw [h] at h1
  cases h1
  exact ⟨_, List.getElem?_eq_getElem lt, h2⟩
theorem zsrc_l {it a : Addr} (ne : a ≠ it) : ZSrc P w K it [it, a] (fun H xs => SqL K H a xs) (fun i h => h.IsListIter it a i) where
  obj := fun i h ⟨o, e, _, d⟩ => ⟨o, e, by intro v q; rw [d] at q; cases q⟩
  keep := fun i h h' t k => t.at k
  inj := fun X hK pins s σ H xs ys I h1 h2 => by subst hK; exact I.list_inj h1 h2
  draw := fun X hP hw hK hc pins s σ H xs i I h t => by
    subst hP; subst hw; subst hK
    obtain ⟨its, rv, p, _⟩ := I.list h
    have D := Draws.list (prog := X.prog) (w := X.w) (show X.A.in1.handled = none from I.ok.hd hc) it a ne its.toArray
    rw [show its.toArray.size = xs.length by rw [rv.length]; rfl] at D
    exact ⟨_, _, D, ⟨t, p.isList⟩, fun j u hu => vals_back rv (by simpa using hu), fun j h q => q.1⟩
theorem zsrc_t {it a : Addr} (ne : a ≠ it) : ZSrc P w K it [it, a] (fun H xs => SqT K H a xs) (fun i h => h.IsTupleIter it a i) where
  obj := fun i h ⟨o, e, _, d⟩ => ⟨o, e, by intro v q; rw [d] at q; cases q⟩
  keep := fun i h h' t k => t.at k
  inj := fun X hK pins s σ H xs ys I h1 h2 => by subst hK; exact I.tuple_inj h1 h2
  draw := fun X hP hw hK hc pins s σ H xs i I h t => by
    subst hP; subst hw; subst hK
    obtain ⟨its, rv, p, _⟩ := I.tuple h
    have D := Draws.tuple (prog := X.prog) (w := X.w) (show X.A.in1.handled = none from I.ok.hd hc) it a ne its.toArray
    rw [show its.toArray.size = xs.length by rw [rv.length]; rfl] at D
    exact ⟨_, _, D, ⟨t, p⟩, fun j u hu => vals_back rv (by simpa using hu), fun j h q => q.1⟩
def signsV (x : Str) : List V := x.cps.toList.map fun c => V.str ⟨#[c]⟩
theorem zsrc_s {it : Addr} {x : Str} {tk : Tok} : ZSrc P w K it [it] (fun _ xs => xs = signsV x) (fun i h => h.IsStrIter it (strIterType x) x tk i) where
  obj := fun i h ⟨o, e, _, d⟩ => ⟨o, e, by intro v q; rw [d] at q; cases q⟩
  keep := fun i h h' ⟨o, e, r⟩ k => ⟨o, k o e, r⟩
  inj := fun X hK pins s σ H xs ys I h1 h2 => by rw [h1, h2]
  draw := fun X hP hw hK hc pins s σ H xs i I h t => by
    subst hP; subst hw; subst h
    have D := Draws.text (prog := X.prog) (w := X.w) (show X.A.in1.handled = none from I.ok.hd hc) it x tk
    rw [show x.cps.size = (signsV x).length by simp [signsV]] at D
    refine ⟨_, _, D, t, fun j u ⟨c, k, h1, h2⟩ => ⟨.str ⟨#[c]⟩, ?_, ?_⟩, fun j h q => q⟩
    · unfold signsV
      rw [List.getElem?_map, Array.getElem?_toList, h1]; rfl
    · rw [h2]; exact ⟨k, rfl⟩
def ZArg (K : PySem.W.Frag) (H : Hp) (v : V) (S : Hp → List V → Prop) : Prop :=
  (∃ a xs, v = .ref a ∧ SqL K H a xs ∧ S = fun H xs => SqL K H a xs) ∨ (∃ a xs, v = .ref a ∧ SqT K H a xs ∧ S = fun H xs => SqT K H a xs) ∨ ∃ x, v = .str x ∧ S = fun _ xs => xs = signsV x
theorem zarg_begins {X : Cx} {pins : List (Addr × Obj)} {σ : L2.St} {H : Hp} {s : Shared} {v : V} {u : Value} {S : Hp → List V → Prop} (I : Inv X pins σ H s) (r : RelV v u) (h : ZArg X.K H v S) :
    ∃ (o : Obj) (Hb : Heap → Prop) (fp : List Addr), Begins u o Hb ∧ Hb s.heap ∧ (∀ b ∈ fp, b < s.heap.objs.size) ∧
      ∀ it, s.heap.objs.size ≤ it → ∃ tn : Nat → Heap → Prop, ZSrc X.prog X.w X.K it (it :: fp) S tn ∧ ∀ h', h'.get? it = some o → tn 0 h' := by
  rcases h with ⟨a, xs, rfl, hq, rfl⟩ | ⟨a, xs, rfl, hq, rfl⟩ | ⟨x, rfl, rfl⟩
  · cases r
    obtain ⟨its, rv, p, _⟩ := I.list hq
    have lt : a < s.heap.objs.size := p.lt
    exact ⟨_, _, [a], begins_list a its.toArray, p.isList, by simpa using lt, fun it hit => ⟨_, zsrc_l (Nat.ne_of_lt (Nat.lt_of_lt_of_le lt hit)), fun h' e => ⟨_, e, rfl, rfl⟩⟩⟩
  · cases r
    obtain ⟨its, rv, p, _⟩ := I.tuple hq
    have lt : a < s.heap.objs.size := by obtain ⟨o, e, _⟩ := id p; exact Heap.lt_size e
    exact ⟨_, _, [a], begins_tuple a its.toArray, p, by simpa using lt, fun it hit => ⟨_, zsrc_t (Nat.ne_of_lt (Nat.lt_of_lt_of_le lt hit)), fun h' e => ⟨_, e, rfl, rfl⟩⟩⟩
  · obtain ⟨tk, rfl⟩ := r
    exact ⟨_, _, [], begins_text x tk, trivial, by simp, fun it hit => ⟨_, zsrc_s, fun h' e => ⟨_, e, rfl, rfl⟩⟩⟩
end
def iZipG (K : PySem.W.Frag) (ta : TA) : TI := fun σ H R => ta σ H fun vs H1 => ∃ v1 v2 S1 S2, vs = [v1, v2] ∧ ZArg K H1 v1 S1 ∧ ZArg K H1 v2 S2 ∧ R (ItzG S1 S2) H1
theorem pi_zipG {X : Cx} {e e2 : Expr} {ta : TA} {p pos tpos : Pos} {elts : List Expr} {kk : Nat} (hg : Gl X "zip") (hm : X.mg "zip" = none) (ha : PA X [e, e2] ta)
    (hs : starEach [e, e2] X.env = (false, eval e X.env) :: starEach [e2] X.env := by rfl) (hpl : (backTo pos (starEach [e2] X.env)).any (·.1) = false := by rfl) :
    PI X (.Tuple elts kk tpos) (.Call (.Name "zip" p) [e, e2] [] pos) (iZipG X.K ta) := ⟨fun pins s σ H R I h => by
  refine Call_ (ld_blt I hg hm PyProof.Rows.boot_zip (PyProof.Rows.callWith_type1 (thn (ha.run pos pins s σ H _ I h) fun us s1 q => ?_) hs hpl))
  obtain ⟨vs, H1, I1, r1, v1, v2, S1, S2, ex, z1, z2, q⟩ := q
  subst ex
  cases r1 with
  | cons ra rr =>
    cases rr with
    | cons rb rr =>
      cases rr
      obtain ⟨o1, Hb1, fp1, B1, b1, lt1, k1⟩ := zarg_begins I1 ra z1
      obtain ⟨o2, Hb2, fp2, B2, b2, lt2, k2⟩ := zarg_begins I1 rb z2
      obtain ⟨tn1, A1, t1⟩ := k1 s1.heap.objs.size (Nat.le_refl _)
      obtain ⟨tn2, A2, t2⟩ := k2 (s1.heap.objs.size + 1) (Nat.le_add_right _ _)
      refine zip_begins2 B1 B2 b1 b2 fun h' gz gT gO g1 g2 sz hk => wpAny_pyIter_zip gz ?_
      have I2 : Inv X pins σ H1 { s1 with heap := h' } := I1.kept (t' := s1.toks) hk
      have new : ∀ c ∈ [s1.heap.objs.size + 4, s1.heap.objs.size + 2, s1.heap.objs.size + 3, s1.heap.objs.size, s1.heap.objs.size + 1], FpOk X pins H1 c := by
        intro c hc
        have le : s1.heap.objs.size ≤ c := by
          simp only [List.mem_cons, List.not_mem_nil, or_false] at hc
          rcases hc with rfl | rfl | rfl | rfl | rfl <;> first | exact Nat.le_refl _ | exact Nat.le_add_right _ _
        exact I1.fpOk le (I1.hok.fresh le)
      exact ⟨_, _, _, _, H1, rfl, I2, turn_zipG (zip_sep2 lt1 lt2) A1 A2, ⟨⟨gz, gT, _, _, gO⟩, t1 h' g1, t2 h' g2⟩, new, q⟩⟩
end Tm
set_option Elab.async false
set_option linter.all false
set_option maxRecDepth 100000
set_option maxHeartbeats 2000000
namespace Tm
open PySem L2
open Evl (Ex ex_rd ex_l ex_t)
structure Walks (K : PySem.W.Frag) (Hk : Hp) (J : It) (items : List MV) : Prop where
  go : ∀ i H, Ex Hk H → i < items.length → J.go i H
  stop : ∀ H, Ex Hk H → J.stop items.length H
  yld : ∀ i H x H', Ex Hk H → i < items.length → J.yld i H x H' → ∃ y, items[i]? = some y ∧ ((H' = H ∧ RV K Hk y x) ∨ ∃ p vs ys, H p = none ∧ H' = upd H p (.tup vs) ∧ x = .ref p ∧ y = .tup ys ∧ RVs K Hk ys vs)
abbrev MI := Env → Res (List MV × Env)
def okI (c : Ct) (F Hk : Hp) (bp : List (Nat × Addr)) (σ : St) (R : It → Hp → Prop) : Res (List MV × Env) → Prop
  | .ok (xs, ρ') => ∀ Hk' H' J, Ex Hk Hk' → RS c.K F Hk' H' bp σ ρ' → Walks c.K Hk' J xs → R J H'
  | .exc e ρ' => Wish c F Hk bp σ e ρ'
  | .stuck => False
theorem okI.mono {c : Ct} {F Hk Hk' : Hp} {bp : List (Nat × Addr)} {σ : St} {Q : It → Hp → Prop} {r : Res (List MV × Env)} (x : Ex Hk Hk') (h : okI c F Hk bp σ Q r) : okI c F Hk' bp σ Q r := by
  cases r with
  | ok a => exact fun Hk2 H2 v x2 => h Hk2 H2 v (x.trans x2)
  | exc e ρ => exact Wish.mono x h
  | stuck => exact h
theorem postI {c : Ct} {F : Hp} {bp : List (Nat × Addr)} {σ : St} {R : It → Hp → Prop} : Post c F bp σ fun Hk r => okI c F Hk bp σ R r := ⟨fun _ _ _ h => h, fun _ h => h, fun _ _ _ x h => okI.mono x h⟩
def rdI (c : Ct) (m : MI) : TI := fun σ H R => ∃ F Hk bp ρ, At c F Hk H bp σ ρ ∧ okI c F Hk bp σ R (m ρ)
theorem PIw {X : Cx} {tg e : Expr} {t t' : TI} (h : PI X tg e t) (w : ∀ σ H R, t' σ H R → t σ H R) : PI X tg e t' := ⟨fun pins s σ H R I q => h.run pins s σ H R I (w σ H R q)⟩
theorem walks_l {K : PySem.W.Frag} {Hk : Hp} {a : Addr} {xs : List MV} {vs : List V} (h : SqL K Hk a vs) (r : RVs K Hk xs vs) : Walks K Hk (Itl K a) xs := by
  refine ⟨fun i H e hi => ?_, fun H e => ⟨vs, ex_l e h, by rw [r.length]; exact Nat.le_refl _⟩, fun i H x H' e hi y => ?_⟩
  · obtain ⟨v, hv, _⟩ := r.get (i := i) (x := xs[i]) (by simp [hi])
    exact ⟨vs, v, ex_l e h, hv⟩
  · obtain ⟨v, hv, rv⟩ := r.get (i := i) (x := xs[i]) (by simp [hi])
    obtain ⟨e1, y⟩ := y
    have := y vs (ex_l e h)
    rw [hv] at this
    cases this
    exact ⟨xs[i], by simp [hi], .inl ⟨e1, rv⟩⟩
theorem walks_t {K : PySem.W.Frag} {Hk : Hp} {a : Addr} {xs : List MV} {vs : List V} (h : SqT K Hk a vs) (r : RVs K Hk xs vs) : Walks K Hk (Itt K a) xs := by
  refine ⟨fun i H e hi => ?_, fun H e => ⟨vs, ex_t e h, by rw [r.length]; exact Nat.le_refl _⟩, fun i H x H' e hi y => ?_⟩
  · obtain ⟨v, hv, _⟩ := r.get (i := i) (x := xs[i]) (by simp [hi])
    exact ⟨vs, v, ex_t e h, hv⟩
  · obtain ⟨v, hv, rv⟩ := r.get (i := i) (x := xs[i]) (by simp [hi])
    obtain ⟨e1, y⟩ := y
    have := y vs (ex_t e h)
    rw [hv] at this
    cases this
    exact ⟨xs[i], by simp [hi], .inl ⟨e1, rv⟩⟩
def rngM (lo c : Int) (n : Nat) : List MV := (List.range n).map fun i => .int (lo + (i : Nat) * c)
theorem rngM_get {lo c : Int} {n i : Nat} (h : i < n) : (rngM lo c n)[i]? = some (.int (lo + (i : Nat) * c)) := by
  unfold rngM
  rw [List.getElem?_map, List.getElem?_range h]; rfl
theorem rngM_len {lo c : Int} {n : Nat} : (rngM lo c n).length = n := by simp [rngM]
theorem walks_r {K : PySem.W.Frag} {Hk : Hp} {lo : Int} {n : Nat} : Walks K Hk (Itr lo n) (rngM lo 1 n) := by
  refine ⟨fun i H e hi => by rw [rngM_len] at hi; exact hi, fun H e => by rw [rngM_len]; exact Nat.le_refl n, fun i H x H' e hi y => ?_⟩
  rw [rngM_len] at hi
  obtain ⟨e1, e2⟩ := y
  exact ⟨_, rngM_get hi, .inl ⟨e1, by rw [e2, Int.mul_one]; exact RV.int.mpr rfl⟩⟩
def signsM (z : Str) : List MV := z.cps.toList.map fun c => .str ⟨#[c]⟩
theorem walks_s {K : PySem.W.Frag} {Hk : Hp} {z : Str} : Walks K Hk (Its z) (signsM z) := by
  have l : (signsM z).length = z.cps.size := by simp [signsM]
  refine ⟨fun i H e hi => by rw [l] at hi; exact hi, fun H e => by rw [l]; exact Nat.le_refl _, fun i H x H' e hi y => ?_⟩
  obtain ⟨e1, ch, e2, e3⟩ := y
  refine ⟨.str ⟨#[ch]⟩, ?_, .inl ⟨e1, by rw [e3]; exact RV.str.mpr rfl⟩⟩
  unfold signsM
  rw [List.getElem?_map, Array.getElem?_toList, e2]; rfl
def zipM (xs ys : List MV) : List MV := List.zipWith (fun x y => .tup [x, y]) xs ys
theorem zipM_get {xs ys : List MV} {i : Nat} {x y : MV} (h1 : xs[i]? = some x) (h2 : ys[i]? = some y) : (zipM xs ys)[i]? = some (.tup [x, y]) := by
  unfold zipM
  rw [List.getElem?_zipWith, h1, h2]
theorem zipM_len {xs ys : List MV} : (zipM xs ys).length = min xs.length ys.length := by simp [zipM]
theorem rvs2 {K : PySem.W.Frag} {H : Hp} {x y : MV} {v w : V} (h : RV K H x v) (g : RV K H y w) : RVs K H [x, y] [v, w] := RVs.cons.mpr ⟨v, _, rfl, h, RVs.cons.mpr ⟨w, _, rfl, g, RVs.nil.mpr rfl⟩⟩
def ZVal (K : PySem.W.Frag) (Hk : Hp) (S : Hp → List V → Prop) (xs : List MV) : Prop := ∃ vs, (∀ H, Ex Hk H → S H vs) ∧ RVs K Hk xs vs
theorem walks_zg {K : PySem.W.Frag} {Hk : Hp} {S1 S2 : Hp → List V → Prop} {xs ys : List MV} (h1 : ZVal K Hk S1 xs) (h2 : ZVal K Hk S2 ys) : Walks K Hk (ItzG S1 S2) (zipM xs ys) := by
  obtain ⟨vs, g1, r1⟩ := h1
  obtain ⟨ws, g2, r2⟩ := h2
  refine ⟨fun i H e hi => ?_, fun H e => ⟨vs, ws, g1 H e, g2 H e, ?_⟩, fun i H x H' e hi y => ?_⟩
  · rw [zipM_len] at hi
    obtain ⟨v, hv, _⟩ := r1.get (i := i) (x := xs[i]) (by first | (simp; done) | (simp; omega))
    obtain ⟨u, hu, _⟩ := r2.get (i := i) (x := ys[i]) (by first | (simp; done) | (simp; omega))
    exact ⟨vs, ws, v, u, g1 H e, g2 H e, hv, hu⟩
  · rw [zipM_len, r1.length, r2.length]; omega
  · rw [zipM_len] at hi
    obtain ⟨v, hv, rv⟩ := r1.get (i := i) (x := xs[i]) (by first | (simp; done) | (simp; omega))
    obtain ⟨u, hu, ru⟩ := r2.get (i := i) (x := ys[i]) (by first | (simp; done) | (simp; omega))
    obtain ⟨p, x1, y1, e1, e2, e3, e4, e5⟩ := y
    have a1 := e4 vs (g1 H e)
    have a2 := e5 ws (g2 H e)
    rw [hv] at a1
    rw [hu] at a2
    cases a1
    cases a2
    exact ⟨_, zipM_get (x := xs[i]) (y := ys[i]) (by first | (simp; done) | (simp; omega)) (by first | (simp; done) | (simp; omega)), .inr ⟨p, _, _, e2, e3, e1, rfl, rvs2 rv ru⟩⟩
def enumFrom (k : Nat) : List MV → List MV
  | [] => []
  | x :: xs => .tup [.int (k : Nat), x] :: enumFrom (k + 1) xs
theorem enum_get : ∀ {xs : List MV} {k i : Nat} {x : MV}, xs[i]? = some x → (enumFrom k xs)[i]? = some (.tup [.int ((k + i : Nat) : Int), x])
  | [], _, _, _, h => by simp at h
  | y :: xs, k, 0, x, h => by simp at h; subst h; rfl
  | y :: xs, k, i + 1, x, h => by
    have := enum_get (xs := xs) (k := k + 1) (i := i) (x := x) (by simpa using h)
    rw [show k + (i + 1) = k + 1 + i by omega]
    exact this
theorem enum_len : ∀ {xs : List MV} {k : Nat}, (enumFrom k xs).length = xs.length
  | [], _ => rfl
  | x :: xs, k => by simp [enumFrom, enum_len]
theorem walks_e {K : PySem.W.Frag} {Hk : Hp} {a : Addr} {xs : List MV} {vs : List V} (h : SqL K Hk a vs) (r : RVs K Hk xs vs) : Walks K Hk (Ite K a) (enumFrom 0 xs) := by
  refine ⟨fun i H e hi => ?_, fun H e => ⟨vs, ex_l e h, by rw [enum_len, r.length]; exact Nat.le_refl _⟩, fun i H x H' e hi y => ?_⟩
  · rw [enum_len] at hi
    obtain ⟨v, hv, _⟩ := r.get (i := i) (x := xs[i]) (by simp [hi])
    exact ⟨vs, v, ex_l e h, hv⟩
  · rw [enum_len] at hi
    obtain ⟨v, hv, rv⟩ := r.get (i := i) (x := xs[i]) (by simp [hi])
    obtain ⟨T, x1, e1, e2, e3, e4⟩ := y
    have q1 := e4 vs (ex_l e h)
    rw [hv] at q1
    cases q1
    refine ⟨_, enum_get (x := xs[i]) (by simp [hi]), .inr ⟨T, _, _, e2, e3, e1, rfl, ?_⟩⟩
    rw [Nat.zero_add]
    exact rvs2 (RV.int.mpr rfl) rv
section
variable {X : Cx} {c : Ct} {tg : Expr}
def itemsOf : MV → Option (List MV)
  | .lst xs => some xs
  | .tup xs => some xs
  | .scr ns => some (ns.map .int)
  | .str z => some (signsM z)
  | _ => none
def mItV (a : ME) : MI := fun ρ => (a ρ).bind fun x ρ1 => match itemsOf x with | some xs => .ok (xs, ρ1) | none => .stuck
theorem mi_val {e : Expr} {a : ME} (h : PE X e (rdE c a)) (hK : c.K = X.K := by rfl) : PI X tg e (rdI c (mItV a)) := by
  refine ⟨fun pins s σ H R I q => ?_⟩
  obtain ⟨F, Hk, bp, ρ, S, q⟩ := q
  cases ea : a ρ with
  | stuck => unfold mItV at q; rw [ea] at q; exact q.elim
  | exc x ρ1 =>
    have z : rdE c a σ H fun _ _ => False := ⟨F, Hk, bp, ρ, S, by
      unfold mItV at q; rw [ea] at q ⊢; exact q⟩
    exact (pi_str h).run pins s σ H R I (rdw z fun _ _ f => f.elim)
  | ok p =>
    obtain ⟨x, ρ1⟩ := p
    have q' : okI c F Hk bp σ R (match itemsOf x with | some xs => .ok (xs, ρ1) | none => .stuck) := by unfold mItV at q; rw [ea] at q; exact q
    have ok : ∀ Q : VK, (∀ Hk' H' v, Ex Hk Hk' → RS c.K F Hk' H' bp σ ρ1 → RV c.K Hk' x v → Q v H') → rdE c a σ H Q := fun Q k => ⟨F, Hk, bp, ρ, S, by rw [ea]; exact k⟩
    cases x with
    | lst xs =>
      refine (pi_list h).run pins s σ H R I (ok _ fun Hk1 H1 v x1 S1 r1 => ?_)
      obtain ⟨p, vs, rfl, h1, s1⟩ := RV.lst.mp r1
      refine ⟨p, rfl, ⟨vs, SqL.of (S1.ex _ _ h1)⟩, ?_⟩
      rw [← hK]
      exact q' Hk1 H1 _ x1 S1 (walks_l (SqL.of h1) s1)
    | tup xs =>
      refine (pi_tup h).run pins s σ H R I (ok _ fun Hk1 H1 v x1 S1 r1 => ?_)
      obtain ⟨p, vs, rfl, h1, s1⟩ := RV.tup.mp r1
      refine ⟨p, rfl, ⟨vs, by rw [← hK]; exact ex_t S1.ex h1⟩, ?_⟩
      rw [← hK]
      exact q' Hk1 H1 _ x1 S1 (walks_t h1 s1)
    | scr ns =>
      refine (pi_list h).run pins s σ H R I (ok _ fun Hk1 H1 v x1 S1 r1 => ?_)
      obtain ⟨p, rfl, h1⟩ := RV.scr.mp r1
      refine ⟨p, rfl, ⟨_, by rw [← hK]; exact ex_l S1.ex h1⟩, ?_⟩
      rw [← hK]
      exact q' Hk1 H1 _ x1 S1 (walks_l h1 (RVs.ints.mpr rfl))
    | str z =>
      refine (pi_str h).run pins s σ H R I (ok _ fun Hk1 H1 v x1 S1 r1 => ?_)
      exact ⟨z, RV.str.mp r1, q' Hk1 H1 _ x1 S1 walks_s⟩
    | _ => exact q'.elim
def inR (i : Int) : Bool := decide (-(2 ^ 62) ≤ i) && decide (i < 2 ^ 62)
theorem inR_iff {i : Int} : inR i = true ↔ -(2 ^ 62) ≤ i ∧ i < 2 ^ 62 := by unfold inR; simp
def mR1 (a : MA) : MI := fun ρ => (a ρ).bind fun xs ρ1 => match xs with
  | [.int j] => if inR j then .ok (rngM 0 1 j.toNat, ρ1) else .stuck
  | _ => .stuck
theorem rvs_int1 {K : PySem.W.Frag} {H : Hp} {i : Int} {vs : List V} (r : RVs K H [.int i] vs) : vs = [.int i] := (RVs.ints (ns := [i])).mp r
theorem mi_r1 {a : Expr} {m : MA} {p pos : Pos} (hm : X.mg "range" = none) (ha : PA X [a] (rdA c m)) (hg : Gl X "range" := by rfl) (hs : starEach [a] X.env = [(false, eval a X.env)] := by rfl) : PI X tg (.Call (.Name "range" p) [a] [] pos) (rdI c (mR1 m)) :=
  PIw (pi_range1 hg hm ha hs) fun σ H R ⟨F, Hk, bp, ρ, S, h⟩ => rdAw (bA postI S h) fun vs H1 ⟨Hk1, xs, ρ1, x1, S1, r1, h1⟩ => by
    split at h1
    · rename_i j
      split at h1
      · rename_i hj
        have := inR_iff.mp hj
        exact ⟨j, rvs_int1 r1, this.1, this.2, h1 _ _ _ (Ex.refl _) S1.1 walks_r⟩
      · exact h1.elim
    · exact h1.elim
def zitM : MV → Option (List MV)
  | .lst xs => some xs
  | .tup xs => some xs
  | .str z => some (signsM z)
  | _ => none
theorem rv_signs {K : PySem.W.Frag} {Hk : Hp} (z : Str) : RVs K Hk (signsM z) (signsV z) := by
  unfold signsM signsV
  generalize z.cps.toList = l
  induction l with
  | nil => exact RVs.nil.mpr rfl
  | cons c l ih => exact RVs.cons.mpr ⟨_, _, rfl, RV.str.mpr rfl, ih⟩
theorem zit_arg {K : PySem.W.Frag} {Hk H : Hp} {x : MV} {v : V} {xs : List MV} (e : Ex Hk H) (r : RV K Hk x v) (h : zitM x = some xs) : ∃ S, ZArg K H v S ∧ ZVal K Hk S xs := by
  cases x with
  | lst ys =>
    cases h
    obtain ⟨p, vs, rfl, g, s⟩ := RV.lst.mp r
    exact ⟨_, .inl ⟨p, vs, rfl, SqL.of (e _ _ g), rfl⟩, vs, fun H' e' => ex_l e' (SqL.of g), s⟩
  | tup ys =>
    cases h
    obtain ⟨p, vs, rfl, g, s⟩ := RV.tup.mp r
    exact ⟨_, .inr (.inl ⟨p, vs, rfl, ex_t e g, rfl⟩), vs, fun H' e' => ex_t e' g, s⟩
  | str z =>
    cases h
    rw [RV.str.mp r]
    exact ⟨_, .inr (.inr ⟨z, rfl, rfl⟩), signsV z, fun _ _ => rfl, rv_signs z⟩
  | _ => cases h
def mZip (a : MA) : MI := fun ρ => (a ρ).bind fun xs ρ1 => match xs with
  | [x, y] => (match zitM x, zitM y with | some xs, some ys => .ok (zipM xs ys, ρ1) | _, _ => .stuck)
  | _ => .stuck
theorem mi_zip {e e2 : Expr} {m : MA} {p pos tpos : Pos} {elts : List Expr} {kk : Nat} (hm : X.mg "zip" = none) (ha : PA X [e, e2] (rdA c m)) (hg : Gl X "zip" := by rfl) (hK : c.K = X.K := by rfl)
    (hs : starEach [e, e2] X.env = (false, eval e X.env) :: starEach [e2] X.env := by rfl) (hpl : (backTo pos (starEach [e2] X.env)).any (·.1) = false := by rfl) : PI X (.Tuple elts kk tpos) (.Call (.Name "zip" p) [e, e2] [] pos) (rdI c (mZip m)) :=
  PIw (pi_zipG hg hm ha hs hpl) fun σ H R ⟨F, Hk, bp, ρ, S, h⟩ => rdAw (bA postI S h) fun vs H1 ⟨Hk1, xs, ρ1, x1, S1, r1, h1⟩ => by
    split at h1
    · split at h1
      · rename_i z1 z2
        obtain ⟨v, r, rfl, q1, q2⟩ := RVs.cons.mp r1
        obtain ⟨w, r', rfl, q3, q4⟩ := RVs.cons.mp q2
        rw [RVs.nil.mp q4]
        obtain ⟨T1, y1, y2⟩ := zit_arg S1.1.ex q1 z1
        obtain ⟨T2, y3, y4⟩ := zit_arg S1.1.ex q3 z2
        refine ⟨v, w, T1, T2, rfl, hK ▸ y1, hK ▸ y3, ?_⟩
        exact h1 _ _ _ (Ex.refl _) S1.1 (walks_zg y2 y4)
      · exact h1.elim
    · exact h1.elim
def mEnum (a : MA) : MI := fun ρ => (a ρ).bind fun xs ρ1 => match xs with
  | [.lst xs] => .ok (enumFrom 0 xs, ρ1)
  | _ => .stuck
theorem mi_enum {e : Expr} {m : MA} {p pos tpos : Pos} {elts : List Expr} {kk : Nat} (hm : X.mg "enumerate" = none) (ha : PA X [e] (rdA c m)) (hg : Gl X "enumerate" := by rfl) (hK : c.K = X.K := by rfl)
    (hs : starEach [e] X.env = [(false, eval e X.env)] := by rfl) : PI X (.Tuple elts kk tpos) (.Call (.Name "enumerate" p) [e] [] pos) (rdI c (mEnum m)) :=
  PIw (pi_enum hg hm ha hs) fun σ H R ⟨F, Hk, bp, ρ, S, h⟩ => rdAw (bA postI S h) fun vs H1 ⟨Hk1, xs, ρ1, x1, S1, r1, h1⟩ => by
    split at h1
    · obtain ⟨v, r, rfl, q1, q2⟩ := RVs.cons.mp r1
      rw [RVs.nil.mp q2]
      obtain ⟨p1, vs1, rfl, g1, s1⟩ := RV.lst.mp q1
      refine ⟨p1, vs1, rfl, SqL.of (S1.1.ex _ _ g1), ?_⟩
      rw [← hK]
      exact h1 _ _ _ (Ex.refl _) S1.1 (walks_e (SqL.of g1) s1)
    · exact h1.elim
def mLoop (g : MG) (b : MS) : List MV → Env → Res (Fl × Env)
  | [], ρ => .ok (.nx, ρ)
  | x :: xs, ρ => match g x ρ with
    | none => .stuck
    | some ρ1 => (b ρ1).bind fun f ρ2 => match f with
      | .nx => mLoop g b xs ρ2
      | .ct => mLoop g b xs ρ2
      | .br => .ok (.nx, ρ2)
      | .rt v => .ok (.rt v, ρ2)
def mFor (i : MI) (g : MG) (b : MS) : MS := fun ρ => (i ρ).bind fun xs ρ1 => mLoop g b xs ρ1
theorem okS.loop {F Hk : Hp} {bp : List (Nat × Addr)} {D : Ends} {g : MG} {b : MS} {xs : List MV} {N : St → Hp → Prop} (hN : ∀ Hk' H' σ' ρ', Ex Hk Hk' → RS c.K F Hk' H' bp σ' ρ' → okS c F Hk' bp D (mLoop g b xs ρ') → N σ' H') {r : Res (Fl × Env)}
    (h : okS c F Hk bp D (r.bind fun f ρ2 => match f with | .nx => mLoop g b xs ρ2 | .ct => mLoop g b xs ρ2 | .br => .ok (.nx, ρ2) | .rt v => .ok (.rt v, ρ2))) : okS c F Hk bp { D with nx := N, ct := N, bk := D.nx } r := by
  cases r with
  | stuck => exact h
  | exc e ρ => exact h
  | ok q =>
    obtain ⟨f, ρ1⟩ := q
    cases f with
    | nx => exact fun Hk1 H1 σ1 x1 S1 => hN Hk1 H1 σ1 ρ1 x1 S1 (okS.mono x1 h)
    | ct => exact fun Hk1 H1 σ1 x1 S1 => hN Hk1 H1 σ1 ρ1 x1 S1 (okS.mono x1 h)
    | br => exact h
    | rt x => exact h
theorem rd_for {it : MI} {g : MG} {b : MS} {D : Ends} {σ : St} {H : Hp} (h : rdS c (mFor it g b) D σ H) : tFor (rdI c it) (rdG c g) (rdS c b) D σ H := by
  obtain ⟨F, Hk, bp, ρ, S, h⟩ := h
  refine ⟨F, Hk, bp, ρ, S, ?_⟩
  have h : okS c F Hk bp D ((it ρ).bind fun xs ρ1 => mLoop g b xs ρ1) := h
  cases e : it ρ with
  | stuck => rw [e] at h; exact h
  | exc x ρ' => rw [e] at h; exact fun Hk1 H1 cls d => h Hk1 H1 σ cls d
  | ok p =>
    obtain ⟨xs, ρ1⟩ := p
    rw [e] at h
    intro Hk1 H1 J x1 S1 wk
    have h : okS c F Hk1 bp D (mLoop g b xs ρ1) := okS.mono x1 h
    refine ⟨fun i m σ' H' => m = xs.length - i ∧ i ≤ xs.length ∧ ∃ Hk' ρ', Ex Hk1 Hk' ∧ At c F Hk' H' bp σ' ρ' ∧ okS c F Hk' bp D (mLoop g b (xs.drop i) ρ'), ⟨xs.length, by simp, Nat.zero_le _, Hk1, ρ1, Ex.refl _, ⟨S1, S.2⟩, h⟩, ?_⟩
    rintro i m σ' H' ⟨rfl, hi, Hk', ρ', x', S', h'⟩
    by_cases hlt : i < xs.length
    · refine .inr ⟨wk.go i H' (x'.trans S'.1.ex) hlt, fun σ2 H2 => ∃ Hk2 ρ2, Ex Hk1 Hk2 ∧ At c F Hk2 H2 bp σ2 ρ2 ∧ okS c F Hk2 bp D (mLoop g b (xs.drop (i + 1)) ρ2), fun σ2 H2 ⟨Hk2, ρ2, x2, S2, h2⟩ => ⟨xs.length - (i + 1), by omega, rfl, hlt, Hk2, ρ2, x2, S2, h2⟩, fun x H2 y => ?_⟩
      obtain ⟨z, ez, hz⟩ := wk.yld i H' x H2 (x'.trans S'.1.ex) hlt y
      have ed : xs.drop i = z :: xs.drop (i + 1) := by
        rw [List.drop_eq_getElem_cons hlt]
        rw [List.getElem?_eq_getElem hlt] at ez
        cases ez; rfl
      rw [ed] at h'
      have fin : ∀ Hk3, Ex Hk' Hk3 → At c F Hk3 H2 bp σ' ρ' → RV c.K Hk3 z x → rdG c g x σ' H2 fun σ2 H2 => rdS c b { D with nx := fun σ2 H2 => ∃ Hk2 ρ2, Ex Hk1 Hk2 ∧ At c F Hk2 H2 bp σ2 ρ2 ∧ okS c F Hk2 bp D (mLoop g b (xs.drop (i + 1)) ρ2), ct := fun σ2 H2 => ∃ Hk2 ρ2, Ex Hk1 Hk2 ∧ At c F Hk2 H2 bp σ2 ρ2 ∧ okS c F Hk2 bp D (mLoop g b (xs.drop (i + 1)) ρ2), bk := D.nx } σ2 H2 := fun Hk3 x3 S3 r3 => by
        refine ⟨F, Hk3, bp, ρ', z, S3, r3, ?_⟩
        have h' := okS.mono x3 h'
        unfold mLoop at h'
        cases eg : g z ρ' with
        | none => rw [eg] at h'; exact h'
        | some ρ3 =>
          rw [eg] at h'
          intro Hk4 H4 σ4 x4 S4
          refine ⟨F, Hk4, bp, ρ3, ⟨S4, S.2⟩, okS.loop (fun Hk5 H5 σ5 ρ5 x5 S5 h5 => ⟨Hk5, ρ5, x'.trans (x3.trans (x4.trans x5)), ⟨S5, S.2⟩, h5⟩) (okS.mono x4 h')⟩
      rcases hz with ⟨rfl, r⟩ | ⟨p, vs, ys, hp, rfl, rfl, rfl, r⟩
      · exact fin Hk' (Ex.refl _) S' (RV.mono x' _ _ r)
      · have xn := Ex.new (o := .tup vs) (S'.1.ex.back hp)
        exact fin _ xn ⟨S'.1.new hp, S.2⟩ (RV.tup.mpr ⟨p, vs, rfl, SqT.of upd_same, r.mono (x'.trans xn)⟩)
    · have e : i = xs.length := by omega
      subst e
      rw [List.drop_length] at h'
      exact .inl ⟨wk.stop H' (x'.trans S'.1.ex), h' _ _ _ (Ex.refl _) S'.1⟩
theorem ms_for {iter : Expr} {body : List Stmt} {it : MI} {g : MG} {b : MS} {pos : Pos} (hp : PassesOwn (model X.prog X.w) X.A X.env X.xe) (hc : X.calm = true) (hi : PI X tg iter (rdI c it)) (hg : PG X tg (rdG c g)) (hb : PSs X body (rdS c b))
    (hs : ∀ x, foldedSetIterable iter X.env x = pure x := by intro _; rfl) : PS X (.For tg iter body [] pos) (rdS c (mFor it g b)) := PSw (ps_for hp hc hi hg hb hs) fun _ _ _ h => rd_for h
end
end Tm
set_option Elab.async false
set_option linter.all false
set_option maxRecDepth 100000
set_option maxHeartbeats 2000000
namespace Tm
open PySem L2
open Evl (Ex ex_rd ex_l ex_t)
theorem okXN {P : Program} {w : World} {K : PySem.W.Frag} {mg : Str → Option Value} {base : Heap} {x qual : Str} {st : Stmt} {f : Addr} {fd : FuncData} {N ps : List Str} {k : Nat} {sp : Sp} (F : Fun K x qual st f fd) (S : FnScope N ps (defScope st)) (hl : ∀ vs H Q E, sp vs H Q E → vs.length = ps.length)
    (b : ∀ (cdv : Value) (A : Around) (outer : List PySem.Env) (s : Shared) (H : Hp) (vs : List V) (Q : VK) (E : XK), Room k (A.deeper (PyProof.Rows.envOfC qual (defScope st) s.heap.objs.size f cdv)) → sp vs H Q E →
      ∃ t, PSs (cxOf (L2N.CX P w) P w K mg base N qual (defScope st) f cdv A outer s H E) (defBody st) t ∧ t { nx := fun _ H' => Q .non H', rt := Q } (L2.start N vs) H) : FnOk P w K mg base (L2N.CX P w) (k + 1) f fd ps sp := by
  obtain ⟨_, _, _, _, _, _, cv, _, _, rfl, e, hc⟩ := F.ex
  exact fn_of e hc S hl fun A outer s H vs Q E hr h => b cv A outer s H vs Q E hr h
abbrev MF := List MV → Res (MV × Env)
def endOf (bs : List Nat) (ρ : Env) : Env := bs.map fun i => (ρ[i]?).join
def mFn (n : Nat) (bs : List Nat) (m : MS) : MF := fun xs => match m (xs.map some ++ List.replicate (n - xs.length) none) with
  | .ok (.rt v, ρ) => .ok (v, endOf bs ρ)
  | .ok (.nx, ρ) => .ok (.non, endOf bs ρ)
  | .exc e ρ => .exc e (endOf bs ρ)
  | _ => .stuck
def okF (K : PySem.W.Frag) (mg : Str → Option Value) (F Hk : Hp) (bσ : St) (Q : VK) (E : XK) : Res (MV × Env) → Prop
  | .ok (v, bs) => ∀ Hk' H' w, Ex Hk Hk' → RS K F Hk' H' [] (bσ ++ [some w]) (bs ++ [some v]) → Q w H'
  | .exc e bs => ∀ Hk' H' cls d, Ex Hk Hk' → RS K F Hk' H' [] bσ bs → ExR K mg Hk' e cls d → E cls d H'
  | .stuck => False
def spF (K : PySem.W.Frag) (mg : Str → Option Value) (np : Nat) (bs : List Nat) (f : MF) : Sp := fun vs H Q E => vs.length = np ∧ ∃ F Hk bp xs, RS K F Hk H bp (vs.map some) (xs.map some) ∧ bp.map (·.1) = bs ∧ okF K mg F Hk (bp.map fun q => some (.ref q.2)) Q E (f xs)
section
variable {K : PySem.W.Frag} {F Hk H : Hp} {bp : List (Nat × Addr)} {σ : St} {ρ : Env}
theorem RS.pick (S : RS K F Hk H bp (σ ++ [some v]) (ρ ++ [some x])) (is : List Nat) (nd : is.Nodup) (hl : ∀ i ∈ is, i < ρ.length) :
    RS K F Hk H [] ((is.map fun i => (σ[i]?).join) ++ [some v]) ((is.map fun i => (ρ[i]?).join) ++ [some x]) := by
  obtain ⟨ow, s⟩ := S.ow
  have hlen : σ.length = ρ.length := by have := S.len; simpa using this
  have old : ∀ {j i : Nat}, is[j]? = some i → i < ρ.length := fun h => hl _ (List.mem_of_getElem? h)
  refine ⟨by simp, S.ex, S.fr, S.frk, ⟨fun j => match is[j]? with | some i => ow i | none => if j = is.length then ow ρ.length else [], ?_⟩, fun q hq => nomatch hq⟩
  have own : ∀ j a, a ∈ (match is[j]? with | some i => ow i | none => if j = is.length then ow ρ.length else []) → (∃ i, is[j]? = some i ∧ a ∈ ow i) ∨ (j = is.length ∧ a ∈ ow ρ.length) := fun j a h => by
    cases e : is[j]? with
    | some i => rw [e] at h; exact .inl ⟨i, rfl, h⟩
    | none =>
      rw [e] at h
      by_cases e2 : j = is.length
      · rw [if_pos e2] at h; exact .inr ⟨e2, h⟩
      · rw [if_neg e2] at h; cases h
  refine ⟨fun j y h => ?_, fun j a h => ?_, fun j h => ?_, fun j k a hjk h1 h2 => ?_⟩
  · rcases app_get h with ⟨e1, e2⟩ | ⟨lt, e2⟩
    · cases e2
      rw [List.length_map] at e1
      subst e1
      obtain ⟨u, hu, ou⟩ := s.s ρ.length x (by simp)
      have ev : u = v := by rw [← hlen] at hu; simpa using hu.symm
      subst ev
      refine ⟨u, by simp, ?_⟩
      have : is[is.length]? = none := by simp
      rw [this, if_pos rfl]
      exact ou
    · rw [List.length_map] at lt
      rw [List.getElem?_map] at e2
      cases ei : is[j]? with
      | none => rw [ei] at e2; cases e2
      | some i =>
        rw [ei] at e2
        have e3 : ρ[i]? = some (some y) := by
          cases er : ρ[i]? with
          | none => rw [Option.map_some, er] at e2; cases e2
          | some o => rw [Option.map_some, er] at e2; cases o with
            | none => cases e2
            | some z => cases e2; rfl
        have li := old ei
        obtain ⟨w, w1, w2⟩ := s.s i y (by rw [List.getElem?_append_left li]; exact e3)
        rw [List.getElem?_append_left (by rw [hlen]; exact li)] at w1
        refine ⟨w, ?_, w2⟩
        rw [List.getElem?_append_left (by simpa using lt), List.getElem?_map, ei, Option.map_some, w1]; rfl
  · rcases own j a h with ⟨i, _, m⟩ | ⟨_, m⟩
    · exact s.f i a m
    · exact s.f _ a m
  · cases e : (match is[j]? with | some i => ow i | none => if j = is.length then ow ρ.length else []) with
    | nil => exact (h e).elim
    | cons a r =>
      rcases own j a (by rw [e]; simp) with ⟨i, ei, _⟩ | ⟨e2, _⟩
      · have := lt_get ei; simp; omega
      · simp; omega
  · rcases own j a h1 with ⟨i, ei, m⟩ | ⟨e1, m⟩ <;> rcases own k a h2 with ⟨i2, ei2, m2⟩ | ⟨e2, m2⟩
    · have ne : i ≠ i2 := fun z => by
        subst z
        obtain ⟨a1, a2⟩ := List.getElem?_eq_some_iff.mp ei
        obtain ⟨b1, b2⟩ := List.getElem?_eq_some_iff.mp ei2
        exact hjk ((List.getElem_inj nd).mp (a2.trans b2.symm))
      exact s.d i i2 a ne m m2
    · exact s.d i ρ.length a (Nat.ne_of_lt (old ei)) m m2
    · exact s.d i2 ρ.length a (Nat.ne_of_lt (old ei2)) m2 m
    · exact hjk (e1.trans e2.symm)
theorem RS.pad (S : RS K F Hk H bp σ ρ) (n : Nat) : RS K F Hk H bp (σ ++ List.replicate n none) (ρ ++ List.replicate n none) := by
  obtain ⟨ow, s⟩ := S.ow
  have g : ∀ {α : Type} {l : List (Option α)} {j : Nat} {y : α}, (l ++ List.replicate n none)[j]? = some (some y) → l[j]? = some (some y) := fun {α l j y} h => by
    by_cases e : j < l.length
    · rw [List.getElem?_append_left e] at h; exact h
    · rw [List.getElem?_append_right (Nat.le_of_not_lt e), List.getElem?_replicate] at h
      split at h <;> cases h
  have g2 : ∀ {α : Type} {l : List (Option α)} {j : Nat} {y : α}, l[j]? = some (some y) → (l ++ List.replicate n none)[j]? = some (some y) := fun {α l j y} h => by
    rw [List.getElem?_append_left (lt_get h)]; exact h
  refine ⟨by simp [S.len], S.ex, S.fr, S.frk, ⟨ow, fun j y h => ?_, s.f, fun j h => ?_, s.d⟩, fun q hq => g2 (S.bor q hq)⟩
  · obtain ⟨v, e, o⟩ := s.s j y (g h)
    exact ⟨v, g2 e, o⟩
  · have := s.w j h; simp; omega
theorem RS.args {xs : List MV} {vs : List V} (ex : Ex Hk H) (fr : Ex F H) (frk : ∀ a o, F a = some o → Hk a = none) (r : RVs K Hk xs vs) : RS K F Hk H [] (vs.map some) (xs.map some) := by
  refine ⟨by simp [r.length], ex, fr, frk, ⟨fun _ => [], fun j y h => ?_, fun j a h => (nomatch h), fun j h => (h rfl).elim, fun j k a _ h => nomatch h⟩, fun q hq => nomatch hq⟩
  rw [List.getElem?_map] at h
  cases e : xs[j]? with
  | none => rw [e] at h; cases h
  | some z =>
    rw [e] at h
    cases h
    obtain ⟨v, e1, rv⟩ := r.get e
    exact ⟨v, by rw [List.getElem?_map, e1]; rfl, rv.ov⟩
end
section
variable {X : Cx} {c : Ct}
def fz : MV → Option MV
  | .own xs => some (.lst xs)
  | .obj _ _ => none
  | .dow ks xs => some (.dct ks xs)
  | .dot _ _ => none
  | .ols _ => none
  | x => some x
def mFz (m : ME) : ME := fun ρ => (m ρ).bind fun x ρ1 => match fz x with | some y => .ok (y, ρ1) | none => .stuck
section
variable {K : PySem.W.Frag} {F Hk H : Hp} {bp : List (Nat × Addr)} {σ : L2.St} {ρ : Env}
theorem RS.freezeD (S : RS K F Hk H bp σ ρ) {i : Nat} {ks : List Key} {xs : List MV} (h : ρ[i]? = some (some (.dow ks xs))) :
    ∃ p vs, σ[i]? = some (some (.ref p)) ∧ Ex Hk (upd Hk p (.dK (ks.zip vs))) ∧ RV K (upd Hk p (.dK (ks.zip vs))) (.dct ks xs) (.ref p) ∧ RS K F (upd Hk p (.dK (ks.zip vs))) H bp σ (ρ.set i (some (.dct ks xs))) := by
  obtain ⟨ow, s⟩ := S.ow
  obtain ⟨v, ev, o⟩ := s.s i _ h
  obtain ⟨p, vs, e1, e2, e3, el, e4⟩ := (show ∃ p vs, v = .ref p ∧ ow i = [p] ∧ H p = some (.dK (ks.zip vs)) ∧ ks.length = xs.length ∧ RVs K Hk xs vs from by unfold OV OF at o; exact o)
  have m : p ∈ ow i := by rw [e2]; simp
  obtain ⟨f1, f2, _⟩ := s.f i p m
  have ex : Ex Hk (upd Hk p (.dK (ks.zip vs))) := Ex.new f1
  have rv : RV K (upd Hk p (.dK (ks.zip vs))) (.dct ks xs) (.ref p) := RV.dct.mpr ⟨p, vs, rfl, upd_same, el, e4.mono ex⟩
  have li := lt_get h
  refine ⟨p, vs, by rw [ev, e1], ex, rv, by simp [S.len], S.ex.updL e3, S.fr, fun a u ha => ?_, ⟨put ow i [], ?_⟩, S.bor⟩
  · rw [upd_ne (ne_of_none ha f2)]; exact S.frk a u ha
  · refine ⟨fun j y hj => ?_, fun j a hj => ?_, fun j hj => ?_, fun j k a hjk hj => ?_⟩
    · rcases set_get hj with ⟨rfl, e⟩ | ⟨ne, e⟩
      · cases e
        exact ⟨v, ev, by rw [put_same, e1]; exact rv.ov⟩
      · obtain ⟨u, u1, u2⟩ := s.s j y e
        exact ⟨u, u1, by rw [put_ne ne]; exact u2.move ex fun _ _ _ z => z⟩
    · by_cases e : j = i
      · rw [e, put_same] at hj; cases hj
      · rw [put_ne e] at hj
        obtain ⟨g1, g2⟩ := s.f j a hj
        refine ⟨?_, g2⟩
        rw [upd_ne (fun z => s.d j i a e hj (by rw [z]; exact m))]; exact g1
    · by_cases e : j = i
      · rw [e, put_same] at hj; exact (hj rfl).elim
      · rw [put_ne e] at hj; rw [List.length_set]; exact s.w j hj
    · by_cases e : j = i
      · rw [e, put_same] at hj; cases hj
      · rw [put_ne e] at hj
        by_cases e2 : k = i
        · rw [e2, put_same]; simp
        · rw [put_ne e2]; exact s.d j k a hjk hj
end
theorem RS.last {K : PySem.W.Frag} {F Hk H : Hp} {bp : List (Nat × Addr)} {σ : St} {ρ : Env} {v : V} {x y : MV} (S : RS K F Hk H bp (σ ++ [some v]) (ρ ++ [some x])) (hb : ∀ q ∈ bp, q.1 < ρ.length) (e : fz x = some y) :
    ∃ Hk', Ex Hk Hk' ∧ RS K F Hk' H bp σ ρ ∧ RV K Hk' y v := by
  have hl : σ.length = ρ.length := by have := S.len; simpa using this
  have pl : x.per = true → y = x → ∃ Hk', Ex Hk Hk' ∧ RS K F Hk' H bp σ ρ ∧ RV K Hk' y v := fun px ey => by
    subst ey
    obtain ⟨w, ew, rw'⟩ := S.get (i := ρ.length) (x := y) (by simp) px
    rw [← hl] at ew
    have : w = v := by simpa using ew.symm
    subst this
    exact ⟨Hk, Ex.refl _, S.drop hb, rw'⟩
  cases x with
  | own xs =>
    cases e
    obtain ⟨p, vs, e1, ex, r, S'⟩ := S.freeze (i := ρ.length) (xs := xs) (by simp)
    rw [← hl] at e1
    have : v = .ref p := by simpa using e1
    subst this
    refine ⟨_, ex, ?_, r⟩
    have z : (ρ ++ [some (MV.own xs)]).set ρ.length (some (.lst xs)) = ρ ++ [some (.lst xs)] := by simp
    rw [z] at S'
    exact S'.drop hb
  | obj C fs => cases e
  | ols os => cases e
  | dow ks xs =>
    cases e
    obtain ⟨p, vs, e1, ex, r, S'⟩ := S.freezeD (i := ρ.length) (ks := ks) (xs := xs) (by simp)
    rw [← hl] at e1
    have : v = .ref p := by simpa using e1
    subst this
    refine ⟨_, ex, ?_, r⟩
    have z : (ρ ++ [some (MV.dow ks xs)]).set ρ.length (some (.dct ks xs)) = ρ ++ [some (.dct ks xs)] := by simp
    rw [z] at S'
    exact S'.drop hb
  | dot _ _ => cases e
  | _ => cases e; exact pl rfl rfl
theorem rd_fz {m : ME} {σ : St} {H : Hp} {Q : VK} (h : rdE c (mFz m) σ H Q) : rdO c m σ H Q := by
  obtain ⟨F, Hk, bp, ρ, S, h⟩ := h
  refine ⟨F, Hk, bp, ρ, S, ?_⟩
  have h : okE c F Hk bp σ Q ((m ρ).bind fun x ρ1 => match fz x with | some y => .ok (y, ρ1) | none => .stuck) := h
  cases e : m ρ with
  | stuck => rw [e] at h; exact h
  | exc x ρ' => rw [e] at h; exact h
  | ok p =>
    obtain ⟨x, ρ1⟩ := p
    rw [e] at h
    intro Hk1 H1 v x1 S1
    have h : okE c F Hk bp σ Q (match fz x with | some y => .ok (y, ρ1) | none => .stuck) := h
    have l1 : σ.length = ρ1.length := by have := S1.len; simpa using this
    cases ez : fz x with
    | none => rw [ez] at h; exact h.elim
    | some y =>
      rw [ez] at h
      obtain ⟨Hk2, x2, S2, r2⟩ := S1.last (fun q hq => by rw [← l1]; exact lt_get (S.1.bor q hq)) ez
      exact h _ _ _ (x1.trans x2) S2 r2
theorem me_fz {e : Expr} {m : ME} (h : PE X e (rdO c m)) : PE X e (rdE c (mFz m)) := PEw h fun _ _ _ q => rd_fz q
def mCall (f : MF) (a : MA) : ME := fun ρ => (a ρ).bind fun xs ρ1 => match f xs with
  | .ok (v, _) => .ok (v, ρ1)
  | .exc e _ => .exc e ρ1
  | .stuck => .stuck
theorem call_end {f : MF} {n : Nat} {F Hk H : Hp} {bp : List (Nat × Addr)} {σ : St} {ρ : Env} {xs : List MV} {vs : List V} {Q : VK} {E : XK} (S : At c F Hk H bp σ ρ) (r : RVs c.K Hk xs vs) (hn : xs.length = n)
    (hE : ∀ e, (∀ Hk' H' cls d, Ex Hk Hk' → RS c.K F Hk' H' bp σ ρ → ExR c.K c.mg Hk' e cls d → c.W cls d σ H') → ∀ Hk' H' cls d, Ex Hk Hk' → RS c.K F Hk' H' bp σ ρ → ExR c.K c.mg Hk' e cls d → E cls d H')
    (h : okO c F Hk bp σ Q (match f xs with | .ok (v, _) => .ok (v, ρ) | .exc e _ => .exc e ρ | .stuck => .stuck)) : spF c.K c.mg n [] f vs H Q E := by
  refine ⟨by rw [r.length]; exact hn, ?_⟩
  obtain ⟨ow, s⟩ := S.1.ow
  haveI : ∀ a, Decidable (∃ i, a ∈ ow i) := fun a => Classical.propDecidable _
  have fN : ∃ F' : Hp, (∀ i a, a ∈ ow i → F' a = H a) ∧ (∀ a o, F a = some o → F' a = some o) ∧ ∀ a o, F' a = some o → H a = some o ∧ Hk a = none := by
    refine ⟨fun a => if (∃ i, a ∈ ow i) then H a else F a, fun i a ha => if_pos ⟨i, ha⟩, fun a o ha => ?_, fun a o ha => ?_⟩
    · have : ¬ ∃ i, a ∈ ow i := fun ⟨i, hi⟩ => by have := (s.f i a hi).2.1; rw [ha] at this; cases this
      show (if (∃ i, a ∈ ow i) then H a else F a) = some o
      rw [if_neg this]; exact ha
    · have ha : (if (∃ i, a ∈ ow i) then H a else F a) = some o := ha
      by_cases e : ∃ i, a ∈ ow i
      · rw [if_pos e] at ha
        obtain ⟨i, hi⟩ := e
        exact ⟨ha, (s.f i a hi).1⟩
      · rw [if_neg e] at ha
        exact ⟨S.1.fr a o ha, S.1.frk a o ha⟩
  obtain ⟨F', f1, f2, f3⟩ := fN
  refine ⟨F', Hk, [], xs, RS.args S.1.ex (fun a o ha => (f3 a o ha).1) (fun a o ha => (f3 a o ha).2) r, rfl, ?_⟩
  -- what stands behind the call
  have back : ∀ {Hk' H' : Hp} {bσ : St} {bρ : Env}, Ex Hk Hk' → RS c.K F' Hk' H' [] bσ bρ → RS c.K F Hk' H' bp σ ρ ∧ SL c.K F Hk' H' ow σ ρ := fun {Hk' H' bσ bρ} x S' => by
    have own : ∀ i, ∀ a ∈ ow i, H' a = H a ∧ Hk' a = none := fun i a ha => by
      obtain ⟨g1, g2, o, g3⟩ := s.f i a ha
      have q : F' a = some o := (f1 i a ha).trans g3
      exact ⟨(S'.fr a o q).trans g3.symm, S'.frk a o q⟩
    have sl : SL c.K F Hk' H' ow σ ρ := s.step x own
    exact ⟨⟨S.1.len, S'.ex, fun a o ha => S'.fr a o (f2 a o ha), fun a o ha => S'.frk a o (f2 a o ha), ⟨ow, sl⟩, S.1.bor⟩, sl⟩
  cases ef : f xs with
  | stuck => rw [ef] at h; exact h.elim
  | exc e bs =>
    rw [ef] at h
    intro Hk' H' cls d x S' er
    exact hE e h Hk' H' cls d x (back x S').1 er
  | ok p =>
    obtain ⟨v, bs⟩ := p
    rw [ef] at h
    intro Hk' H' w x S'
    obtain ⟨R1, sl⟩ := back x S'
    refine h Hk' H' w x ?_
    obtain ⟨ow2, s2⟩ := S'.ow
    have bl : bs.length = 0 := by have := S'.len; simpa using this.symm
    have be : bs = [] := List.eq_nil_of_length_eq_zero bl
    subst be
    obtain ⟨w2, e2, o2⟩ := s2.s 0 v rfl
    cases e2
    refine ⟨by simp [S.1.len], R1.ex, R1.fr, R1.frk, ⟨_, sl.push S.1.len o2 (fun a ha => ?_) (fun i a ha hi => ?_)⟩, R1.bor_app _⟩
    · obtain ⟨g1, g2, _⟩ := s2.f 0 a ha
      refine ⟨g1, ?_⟩
      cases e : F a with
      | none => rfl
      | some o => rw [f2 a o e] at g2; cases g2
    · obtain ⟨g1, g2, o, g3⟩ := s2.f 0 a ha
      obtain ⟨_, _, o', q⟩ := s.f i a hi
      rw [f1 i a hi, q] at g2
      cases g2
theorem rd_call {f : MF} {n : Nat} {a : MA} {σ : St} {H : Hp} {Q : VK} (hn : ∀ ρ xs ρ', a ρ = .ok (xs, ρ') → xs.length = n) (h : rdO c (mCall f a) σ H Q) : tCallS (spF c.K c.mg n [] f) (WE c.W) (rdA c a) σ H Q := by
  obtain ⟨F, Hk, bp, ρ, S, h⟩ := h
  refine ⟨F, Hk, bp, ρ, S, ?_⟩
  have h : okO c F Hk bp σ Q ((a ρ).bind fun xs ρ1 => match f xs with | .ok (v, _) => .ok (v, ρ1) | .exc e _ => .exc e ρ1 | .stuck => .stuck) := h
  cases e : a ρ with
  | stuck => rw [e] at h; exact h
  | exc x ρ' => rw [e] at h; exact h
  | ok p =>
    obtain ⟨xs, ρ1⟩ := p
    rw [e] at h
    intro Hk1 H1 vs x1 S1 r1
    exact call_end ⟨S1, S.2⟩ r1 (hn _ _ _ e) (fun e q => q) (okO.mono x1 h)
def Lng (a : MA) (n : Nat) : Prop := ∀ ρ xs ρ', a ρ = .ok (xs, ρ') → xs.length = n
theorem lng_nil : Lng mNil 0 := fun ρ xs ρ' h => by cases h; rfl
theorem lng_cons {a : ME} {b : MA} {n : Nat} (h : Lng b n) : Lng (mCons a b) (n + 1) := fun ρ xs ρ' e => by
  unfold mCons at e
  cases ea : a ρ with
  | stuck => rw [ea] at e; cases e
  | exc x r => rw [ea] at e; cases e
  | ok p =>
    rw [ea] at e
    have e : (b p.2).bind (fun ys ρ2 => Res.ok (p.1 :: ys, ρ2)) = .ok (xs, ρ') := e
    cases eb : b p.2 with
    | stuck => rw [eb] at e; cases e
    | exc x r => rw [eb] at e; cases e
    | ok q =>
      rw [eb] at e
      cases e
      simp [h _ _ _ eb]
variable {k : Nat} {fa : Addr} {fd : FuncData} {ps : List Str} {x : Str} {p pos : Pos} {e : Expr} {es : List Expr} {f : MF} {a : MA} {n : Nat}
theorem mo_call (F : FnOk X.prog X.w X.K X.mg X.base (L2N.CX X.prog X.w) k fa fd ps (spF X.K X.mg n [] f)) (hr : Room k X.A) (hm : X.mg x = some (.ref fa)) (hk : PySem.W.keepIn X.K (.ref fa) = true) (hb : Binds X.K fd ps []) (tk : L2N.Takes X c.W)
    (ha : PA X (e :: es) (rdA c a)) (hn : Lng a n) (hg : Gl X x := by rfl) (hK : c.K = X.K := by rfl) (hM : c.mg = X.mg := by rfl) (hdb : (x == ("__debug__" : Str)) = false := by decide) (he : starEach (e :: es) X.env = (false, eval e X.env) :: starEach es X.env := by rfl)
    (hpl : (backTo pos (starEach es X.env)).any (·.1) = false := by rfl) : PE X (.Call (.Name x p) (e :: es) [] pos) (rdO c (mCall f a)) :=
  PEw (pe_callS (E := WE c.W) F hr hg hm hk hb (fun σ => L2N.passAt tk σ) ha hdb he hpl) fun σ H Q h => by
    have := rd_call hn h
    rw [hK, hM] at this
    exact this
def mCall0 (f : MF) (a : MA) : ME := fun ρ => (a ρ).bind fun xs ρ1 => match f xs with
  | .ok (v, _) => .ok (v, ρ1)
  | _ => .stuck
theorem rd_call0 {f : MF} {n : Nat} {a : MA} {σ : St} {H : Hp} {Q : VK} (hn : Lng a n) (h : rdO c (mCall0 f a) σ H Q) : tCall (spF c.K c.mg n [] f) [] (fun _ _ _ => False) (rdA c a) σ H Q := by
  obtain ⟨F, Hk, bp, ρ, S, h⟩ := h
  refine ⟨F, Hk, bp, ρ, S, ?_⟩
  have h : okO c F Hk bp σ Q ((a ρ).bind fun xs ρ1 => match f xs with | .ok (v, _) => .ok (v, ρ1) | _ => .stuck) := h
  cases e : a ρ with
  | stuck => rw [e] at h; exact h
  | exc x ρ' => rw [e] at h; exact h
  | ok p =>
    obtain ⟨xs, ρ1⟩ := p
    rw [e] at h
    intro Hk1 H1 vs x1 S1 r1
    rw [List.append_nil]
    have h : okO c F Hk bp σ Q (match f xs with | .ok (v, _) => .ok (v, ρ1) | _ => .stuck) := h
    cases ef : f xs with
    | stuck => rw [ef] at h; exact h.elim
    | exc e bs => rw [ef] at h; exact h.elim
    | ok q =>
      rw [ef] at h
      refine call_end (f := f) (c := ⟨c.K, c.mg, fun _ _ _ _ => False, c.bs, c.J, c.Jm⟩) ⟨S1, S.2⟩ r1 (hn _ _ _ e) (fun e q => q) ?_
      rw [ef]
      exact fun Hk2 H2 w x2 => h Hk2 H2 w (x1.trans x2)
theorem passes0 {P : Program} {w : World} {X : Cx} : Passes (L2N.CX P w) X fun _ _ _ => False := fun _ _ _ _ _ _ _ ⟨_, _, _, _, _, _, _, _, _, _, _, _, f⟩ => f.elim
theorem mo_call0 (F : FnOk X.prog X.w X.K X.mg X.base (L2N.CX X.prog X.w) k fa fd ps (spF X.K X.mg n [] f)) (hr : Room k X.A) (hm : X.mg x = some (.ref fa)) (hk : PySem.W.keepIn X.K (.ref fa) = true) (hb : Binds X.K fd ps [])
    (ha : PA X (e :: es) (rdA c a)) (hn : Lng a n) (hg : Gl X x := by rfl) (hK : c.K = X.K := by rfl) (hM : c.mg = X.mg := by rfl) (hdb : (x == ("__debug__" : Str)) = false := by decide) (he : starEach (e :: es) X.env = (false, eval e X.env) :: starEach es X.env := by rfl)
    (hpl : (backTo pos (starEach es X.env)).any (·.1) = false := by rfl) : PE X (.Call (.Name x p) (e :: es) [] pos) (rdO c (mCall0 f a)) :=
  PEw (pe_call F hr hg hm hk hb .nil passes0 ha hdb he hpl) fun σ H Q h => by
    have := rd_call0 hn h
    rw [hK, hM] at this
    exact this
end
section
variable {P : Program} {w : World} {K : PySem.W.Frag} {mg : Str → Option Value} {base : Heap}
theorem start_eq {N : List Str} {vs : List V} {xs : List MV} (h : vs.length = xs.length) : L2.start N vs = vs.map some ++ List.replicate (N.length - xs.length) none := by unfold L2.start; rw [h]
theorem fn_ok {x qual : Str} {st : Stmt} {f : Addr} {fd : FuncData} {N ps : List Str} {k : Nat} {bs : List Nat} {m : MS} (F : Fun K x qual st f fd) (S : FnScope N ps (defScope st)) (nd : bs.Nodup) (hbs : ∀ i ∈ bs, i < ps.length)
    (hbody : ∀ (cdv : Value) (A : Around) (outer : List PySem.Env) (s : Shared) (H : Hp) (E : XK), Room k (A.deeper (PyProof.Rows.envOfC qual (defScope st) s.heap.objs.size f cdv)) →
      PSs (cxOf (L2N.CX P w) P w K mg base N qual (defScope st) f cdv A outer s H E) (defBody st) (rdS ⟨K, mg, fun cls d _ H => E cls d H, bs, fun _ _ => True, fun _ _ _ _ _ => trivial⟩ m)) :
    FnOk P w K mg base (L2N.CX P w) (k + 1) f fd ps (spF K mg ps.length bs (mFn N.length bs m)) := by
  refine okXN F S (fun vs H Q E h => h.1) (fun cdv A outer s H vs Q E hr h => ⟨_, hbody cdv A outer s H E hr, ?_⟩)
  obtain ⟨hl, F', Hk, bp, xs, R, eb, h⟩ := h
  have el : vs.length = xs.length := by have := R.len; simpa using this
  rw [start_eq el]
  refine ⟨F', Hk, bp, _, ⟨R.pad _, eb, trivial⟩, ?_⟩
  have bor : ∀ {σ' : St} {Hk' H' : Hp} {ρ' : Env}, RS K F' Hk' H' bp σ' ρ' → bs.map (fun i => (σ'[i]?).join) = bp.map (fun q => some (.ref q.2)) := fun {σ' Hk' H' ρ'} S' => by
    rw [← eb, List.map_map]
    refine List.map_congr_left fun q hq => ?_
    show (σ'[q.1]?).join = _
    rw [S'.bor q hq]; rfl
  have bl : ∀ {σ' : St} {Hk' H' : Hp} {ρ' : Env}, RS K F' Hk' H' bp σ' ρ' → ∀ i ∈ bs, i < ρ'.length := fun {σ' Hk' H' ρ'} S' i hi => by
    rw [← eb] at hi
    obtain ⟨q, hq, rfl⟩ := List.mem_map.mp hi
    rw [← S'.len]; exact lt_get (S'.bor q hq)
  unfold mFn at h
  cases em : m (xs.map some ++ List.replicate (N.length - xs.length) none) with
  | stuck => rw [em] at h; exact h.elim
  | exc e ρ' =>
    rw [em] at h
    intro Hk' H' σ' cls d x S' er
    refine h Hk' H' cls d x ?_ er
    have z := ((S'.push (x := .non) (v := .non) (RV.non.mpr rfl)).pick bs nd (bl S')).drop (fun _ hq => nomatch hq)
    rw [bor S'] at z
    exact z
  | ok p =>
    obtain ⟨fl, ρ'⟩ := p
    rw [em] at h
    have ret : ∀ {Hk' H' : Hp} {σ' : St} {u : V} {v : MV}, okF K mg F' Hk (bp.map fun q => some (.ref q.2)) Q E (.ok (v, endOf bs ρ')) → Ex Hk Hk' → RS K F' Hk' H' bp (σ' ++ [some u]) (ρ' ++ [some v]) → (∀ q ∈ bp, q.1 < ρ'.length) → Q u H' := fun {Hk' H' σ' u v} h x S' hq => by
      refine h Hk' H' u x ?_
      have z := S'.pick bs nd (fun i hi => by
        rw [← eb] at hi
        obtain ⟨q, hq', rfl⟩ := List.mem_map.mp hi
        exact hq q hq')
      have l1 : σ'.length = ρ'.length := by have := S'.len; simpa using this
      have e2 : bs.map (fun i => (σ'[i]?).join) = bp.map (fun q => some (.ref q.2)) := by
        rw [← eb, List.map_map]
        refine List.map_congr_left fun q hq' => ?_
        show (σ'[q.1]?).join = _
        have := S'.bor q hq'
        rw [List.getElem?_append_left (by rw [l1]; exact hq q hq')] at this
        rw [this]; rfl
      rw [e2] at z
      exact z
    cases fl with
    | nx => exact fun Hk' H' σ' x S' => ret h x (S'.push (x := .non) (v := .non) (RV.non.mpr rfl)) (fun q hq => by rw [← S'.len]; exact lt_get (S'.bor q hq))
    | br => exact h.elim
    | ct => exact h.elim
    | rt v =>
      intro Hk' H' σ' u x lq S'
      have l1 : σ'.length = ρ'.length := by have := S'.len; simpa using this
      exact ret h x S' fun q hq => by rw [← l1]; exact lq q hq
end
end Tm
set_option Elab.async false
set_option linter.all false
set_option maxRecDepth 100000
set_option maxHeartbeats 2000000
namespace Tm
open PySem L2
open Evl (Ex ex_rd ex_l ex_t)
def CallS (K : PySem.W.Frag) (f : List MV → Option MV) (r : List V → Hp → VK → Prop) : Prop := ∀ (xs : List MV) (z : MV) (vs : List V) (Hk H : Hp) (Q : VK), f xs = some z → Ex Hk H → RVs K Hk xs vs → (∀ u, RV K Hk z u → Q u H) →
  (∀ p o, H p = none → RV K (upd Hk p o) z (.ref p) → Q (.ref p) (upd H p o)) → r vs H Q
def mBlt (f : List MV → Option MV) (a : MA) : ME := fun ρ => (a ρ).bind fun xs ρ1 => match f xs with | some z => .ok (z, ρ1) | none => .stuck
section
variable {X : Cx} {c : Ct} {x : Str} {p pos : Pos} {e : Expr} {es : List Expr} {a : MA} {id T : String} {f : List MV → Option MV} {r : List V → Hp → VK → Prop}
theorem rd_blt (o : CallS c.K f r) {σ : St} {H : Hp} {Q : VK} (h : rdE c (mBlt f a) σ H Q) : tCB r (rdA c a) σ H Q := by
  obtain ⟨F, Hk, bp, ρ, S, h⟩ := h
  refine rdAw (bA postE S h) fun vs H1 ⟨Hk1, xs, ρ1, x1, S1, r1, h1⟩ => ?_
  have h1 : okE c F Hk1 bp σ Q (match f xs with | some z => .ok (z, ρ1) | none => .stuck) := h1
  cases ef : f xs with
  | none => rw [ef] at h1; exact h1.elim
  | some z =>
    rw [ef] at h1
    exact o xs z vs Hk1 H1 Q ef S1.1.ex r1 (fun u ru => h1 _ _ u (Ex.refl _) S1.1 ru) fun p ob hp ru => h1 _ _ _ (Ex.new (S1.1.ex.back hp)) (S1.1.new hp) ru
theorem me_blt (hc : CallR X (.builtin id) r) (o : CallS c.K f r) (hm : X.mg x = none) (hv : bootBuiltins x = some (.builtin id)) (ha : PA X (e :: es) (rdA c a)) (hg : Gl X x := by rfl) (hn : x ≠ "__name__" := by decide) (hdb : (x == ("__debug__" : Str)) = false := by decide)
    (he : starEach (e :: es) X.env = (false, eval e X.env) :: starEach es X.env := by rfl) (hpl : (backTo pos (starEach es X.env)).any (·.1) = false := by rfl) : PE X (.Call (.Name x p) (e :: es) [] pos) (rdE c (mBlt f a)) :=
  PEw (pe_callB hc hg hm hv ha hn hdb he hpl) fun _ _ _ h => rd_blt o h
theorem me_ty (hc : CallR X (.type T) r) (o : CallS c.K f r) (hm : X.mg x = none) (hv : bootBuiltins x = some (.type T)) (ha : PA X (e :: es) (rdA c a)) (hg : Gl X x := by rfl) (hn : x ≠ "__name__" := by decide) (hdb : (x == ("__debug__" : Str)) = false := by decide)
    (he : starEach (e :: es) X.env = (false, eval e X.env) :: starEach es X.env := by rfl) (hpl : (backTo pos (starEach es X.env)).any (·.1) = false := by rfl) : PE X (.Call (.Name x p) (e :: es) [] pos) (rdE c (mBlt f a)) :=
  PEw (pe_callTy hc hg hm hv ha hn hdb he hpl) fun _ _ _ h => rd_blt o h
theorem me_bltn {w : V} {u : Value} (hm : X.mg x = none) (hv : bootBuiltins x = some u) (rv : RelV w u) (hg : Gl X x := by rfl) (hn : x ≠ "__name__" := by decide) (hd : (x == ("__debug__" : Str)) = false := by decide) : PE X (.Name x pos) (rdE c (mC (.raw w))) :=
  PEw (pe_bltn hg hm hv rv hn hd) fun _ _ _ h => rd_c (fun _ => RV.raw.mpr rfl) h
end
section
variable {K : PySem.W.Frag}
theorem rvs1 {H : Hp} {x : MV} {vs : List V} (r : RVs K H [x] vs) : ∃ v, vs = [v] ∧ RV K H x v := by
  obtain ⟨v, r', rfl, q1, q2⟩ := RVs.cons.mp r
  rw [RVs.nil.mp q2]
  exact ⟨v, rfl, q1⟩
theorem rvs2' {H : Hp} {x y : MV} {vs : List V} (r : RVs K H [x, y] vs) : ∃ v w, vs = [v, w] ∧ RV K H x v ∧ RV K H y w := by
  obtain ⟨v, r', rfl, q1, q2⟩ := RVs.cons.mp r
  obtain ⟨w, rfl, q3⟩ := rvs1 q2
  exact ⟨v, w, rfl, q1, q3⟩
def bLen : List MV → Option MV
  | [.lst xs] => some (.int xs.length)
  | [.tup xs] => some (.int xs.length)
  | [.scr ns] => some (.int ns.length)
  | [.str z] => if szOk z.length then some (.int z.length) else none
  | _ => none
def rLenM (K : PySem.W.Frag) : List V → Hp → VK → Prop := fun xs H Q => (∃ p ys, xs = [.ref p] ∧ (SqL K H p ys ∨ SqT K H p ys) ∧ Q (.int ys.length) H) ∨ ∃ z, xs = [.str z] ∧ z.length ≤ sizeLine ∧ Q (.int z.length) H
theorem cr_lenM {X : Cx} : CallR X (.builtin "len") (rLenM X.K) := CallR.or call_len_seq call_len_str
theorem cs_len : CallS K bLen (rLenM K) := by
  intro xs z vs Hk H Q e ex r q qn
  unfold bLen at e
  split at e
  · cases e
    obtain ⟨v, rfl, rv⟩ := rvs1 r
    obtain ⟨p1, ws, rfl, h1, s1⟩ := RV.lst.mp rv
    exact .inl ⟨p1, ws, rfl, .inl (SqL.of (ex _ _ h1)), by rw [s1.length]; exact q _ (RV.int.mpr rfl)⟩
  · cases e
    obtain ⟨v, rfl, rv⟩ := rvs1 r
    obtain ⟨p1, ws, rfl, h1, s1⟩ := RV.tup.mp rv
    exact .inl ⟨p1, ws, rfl, .inr (ex_t ex h1), by rw [s1.length]; exact q _ (RV.int.mpr rfl)⟩
  · cases e
    obtain ⟨v, rfl, rv⟩ := rvs1 r
    obtain ⟨p1, rfl, h1⟩ := RV.scr.mp rv
    exact .inl ⟨p1, _, rfl, .inl (ex_l ex h1), by rw [List.length_map]; exact q _ (RV.int.mpr rfl)⟩
  · split at e
    · rename_i hz
      cases e
      obtain ⟨v, rfl, rv⟩ := rvs1 r
      exact .inr ⟨_, by rw [RV.str.mp rv], szOk_iff.mp hz, q _ (RV.int.mpr rfl)⟩
    · cases e
  · cases e
def bAbs : List MV → Option MV
  | [.int i] => some (.int (if i < 0 then -i else i))
  | _ => none
theorem cs_abs : CallS K bAbs (fun xs H Q => ∃ i, xs = [.int i] ∧ Q (.int (if i < 0 then -i else i)) H) := by
  intro xs z vs Hk H Q e ex r q qn
  unfold bAbs at e
  split at e
  · cases e
    exact ⟨_, rvs_int1 r, q _ (RV.int.mpr rfl)⟩
  · cases e
def bInt : List MV → Option MV
  | [.int i] => some (.int i)
  | [.bl k] => some (.int (if k then 1 else 0))
  | [.str s] => if decide (s.length ≤ 640) then (PySem.intText? s).map .int else none
  | _ => none
def rIntM : List V → Hp → VK → Prop := fun xs H Q => ((∃ i, xs = [.int i] ∧ Q (.int i) H) ∨ ∃ k, xs = [.bl k] ∧ Q (.int (if k then 1 else 0)) H) ∨ ∃ a n, xs = [.str a] ∧ PySem.intText? a = some n ∧ a.length ≤ 640 ∧ Q (.int n) H
theorem cr_intM {X : Cx} : CallR X (.type "int") rIntM := CallR.or call_int1 call_int_str
theorem cs_int : CallS K bInt rIntM := by
  intro xs z vs Hk H Q e ex r q qn
  unfold bInt at e
  split at e
  · cases e
    exact .inl (.inl ⟨_, rvs_int1 r, q _ (RV.int.mpr rfl)⟩)
  · cases e
    obtain ⟨v, rfl, rv⟩ := rvs1 r
    exact .inl (.inr ⟨_, by rw [RV.bl.mp rv], q _ (RV.int.mpr rfl)⟩)
  · split at e
    · rename_i s hs
      cases en : PySem.intText? s with
      | none => rw [en] at e; cases e
      | some n =>
        rw [en] at e
        cases e
        obtain ⟨v, rfl, rv⟩ := rvs1 r
        exact .inr ⟨s, n, by rw [RV.str.mp rv], en, of_decide_eq_true hs, q _ (RV.int.mpr rfl)⟩
    · cases e
  · cases e
def blsOf : List MV → Option (List Bool)
  | [] => some []
  | .bl b :: r => (blsOf r).map (b :: ·)
  | _ => none
theorem bls_rv {H : Hp} : ∀ {xs : List MV} {bs : List Bool} {vs : List V}, blsOf xs = some bs → RVs K H xs vs → vs = bs.map V.bl
  | [], bs, vs, e, r => by cases e; rw [RVs.nil.mp r]; rfl
  | .bl b :: r', bs, vs, e, r => by
    unfold blsOf at e
    cases h : blsOf r' with
    | none => rw [h] at e; cases e
    | some cs =>
      rw [h] at e
      cases e
      obtain ⟨v, us, rfl, q1, q2⟩ := RVs.cons.mp r
      rw [RV.bl.mp q1, bls_rv h q2]; rfl
  | .non :: _, _, _, e, _ => by cases e
  | .int _ :: _, _, _, e, _ => by cases e
  | .str _ :: _, _, _, e, _ => by cases e
  | .tup _ :: _, _, _, e, _ => by cases e
  | .lst _ :: _, _, _, e, _ => by cases e
  | .own _ :: _, _, _, e, _ => by cases e
  | .raw _ :: _, _, _, e, _ => by cases e
  | .scr _ :: _, _, _, e, _ => by cases e
  | .fnc _ :: _, _, _, e, _ => by cases e
  | .obj _ _ :: _, _, _, e, _ => by cases e
  | .dct _ _ :: _, _, _, e, _ => by cases e
  | .dow _ _ :: _, _, _, e, _ => by cases e
  | .dot _ _ :: _, _, _, e, _ => by cases e
def bAll : List MV → Option MV
  | [.lst xs] => (blsOf xs).map fun bs => .bl (bs.all id)
  | _ => none
theorem cs_all : CallS K bAll (rAll K) := by
  intro xs z vs Hk H Q e ex r q qn
  unfold bAll at e
  split at e
  · rename_i ys
    cases h : blsOf ys with
    | none => rw [h] at e; cases e
    | some bs =>
      rw [h] at e
      cases e
      obtain ⟨v, rfl, rv⟩ := rvs1 r
      obtain ⟨p1, ws, rfl, h1, s1⟩ := RV.lst.mp rv
      have ew := bls_rv h s1
      subst ew
      exact ⟨p1, bs, rfl, SqL.of (ex _ _ h1), q _ (RV.bl.mpr rfl)⟩
  · cases e
inductive Kd where
  | non | bl | int | str | tup | lst
  deriving DecidableEq
def Kd.name : Kd → String
  | .non => "NoneType" | .bl => "bool" | .int => "int" | .str => "str" | .tup => "tuple" | .lst => "list"
def MV.kd : MV → Option Kd
  | .non => some .non | .bl _ => some .bl | .int _ => some .int | .str _ => some .str | .tup _ => some .tup | .lst _ => some .lst
  | _ => none
def kdOf : String → Option Kd
  | "bool" => some .bl | "int" => some .int | "str" => some .str | "tuple" => some .tup | "list" => some .lst
  | _ => none
def Kd.isa (a b : Kd) : Bool := decide (a = b) || (decide (a = .bl) && decide (b = .int))
theorem kit_kd (a b : Kd) (h : b ≠ .non) : kitB a.name b.name = some (a.isa b) := by
  cases a <;> cases b <;> first | exact (h rfl).elim | decide +kernel
def bIsi : List MV → Option MV
  | [x, .raw (.ty T)] => match x.kd, kdOf T with
    | some a, some b => some (.bl (a.isa b))
    | _, _ => none
  | _ => none
theorem kdOf_name {T : String} {b : Kd} (h : kdOf T = some b) : T = b.name ∧ b ≠ .non := by
  unfold kdOf at h
  split at h <;> first | (cases h; exact ⟨rfl, by decide⟩) | cases h
theorem ty_of {Hk H : Hp} {x : MV} {v : V} {a : Kd} (ex : Ex Hk H) (r : RV K Hk x v) (h : x.kd = some a) : TyX K H v (.type a.name) := by
  cases x with
  | non => cases h; rw [RV.non.mp r]; exact .base .non
  | bl b => cases h; rw [RV.bl.mp r]; exact .base (.bl b)
  | int b => cases h; rw [RV.int.mp r]; exact .base (.int b)
  | str b => cases h; rw [RV.str.mp r]; exact .base (.str b)
  | tup xs =>
    cases h
    obtain ⟨p, vs, rfl, h1, _⟩ := RV.tup.mp r
    rcases ex_t ex h1 with (h1 | ⟨o, h1⟩) | ⟨o, its, n, h1, h2, _⟩
    · exact .base (.tup h1)
    · exact .fTuple h1
    · exact .kTuple h1 h2
  | lst xs =>
    cases h
    obtain ⟨p, vs, rfl, h1, _⟩ := RV.lst.mp r
    exact .base (.lst (ex _ _ h1))
  | _ => cases h
theorem cs_isi : CallS K bIsi (rIsi K) := by
  intro xs z vs Hk H Q e ex r q qn
  unfold bIsi at e
  split at e
  · rename_i x T
    split at e
    · rename_i a b e1 e2
      cases e
      obtain ⟨v, w, rfl, r1, r2⟩ := rvs2' r
      obtain ⟨et, nb⟩ := kdOf_name e2
      refine ⟨v, w, _, .type T, _, rfl, ?_, ty_of ex r1 e1, ?_, q _ (RV.bl.mpr rfl)⟩
      · rw [RV.raw.mp r2]; exact .ty T
      · subst et; exact kit_ty (kit_kd a b nb)
    · cases e
  · cases e
end
section
variable {X : Cx} {c : Ct} {p pos : Pos} {e e2 : Expr} {es : List Expr} {a : MA}
theorem mb_len (hm : X.mg "len" = none) (ha : PA X [e] (rdA c a)) (hK : c.K = X.K := by rfl) (hg : Gl X "len" := by rfl) (he : starEach [e] X.env = (false, eval e X.env) :: starEach [] X.env := by rfl) (hpl : (backTo pos (starEach [] X.env)).any (·.1) = false := by rfl) : PE X (.Call (.Name "len" p) [e] [] pos) (rdE c (mBlt bLen a)) :=
  me_blt cr_lenM (by rw [← hK]; exact cs_len) hm PySem.boot_len ha hg (he := he) (hpl := hpl)
theorem mb_abs (hm : X.mg "abs" = none) (ha : PA X [e] (rdA c a)) (hg : Gl X "abs" := by rfl) (he : starEach [e] X.env = (false, eval e X.env) :: starEach [] X.env := by rfl) (hpl : (backTo pos (starEach [] X.env)).any (·.1) = false := by rfl) : PE X (.Call (.Name "abs" p) [e] [] pos) (rdE c (mBlt bAbs a)) :=
  me_blt call_abs cs_abs hm (by decide +kernel) ha hg (he := he) (hpl := hpl)
theorem mb_int (hm : X.mg "int" = none) (ha : PA X [e] (rdA c a)) (hg : Gl X "int" := by rfl) (he : starEach [e] X.env = (false, eval e X.env) :: starEach [] X.env := by rfl) (hpl : (backTo pos (starEach [] X.env)).any (·.1) = false := by rfl) : PE X (.Call (.Name "int" p) [e] [] pos) (rdE c (mBlt bInt a)) :=
  me_ty cr_intM cs_int hm (by decide +kernel) ha hg (he := he) (hpl := hpl)
theorem mb_all (hc : X.calm = true) (hm : X.mg "all" = none) (ha : PA X [e] (rdA c a)) (hK : c.K = X.K := by rfl) (hg : Gl X "all" := by rfl) (he : starEach [e] X.env = (false, eval e X.env) :: starEach [] X.env := by rfl) (hpl : (backTo pos (starEach [] X.env)).any (·.1) = false := by rfl) : PE X (.Call (.Name "all" p) [e] [] pos) (rdE c (mBlt bAll a)) :=
  me_blt (cr_all hc) (by rw [← hK]; exact cs_all) hm (by decide +kernel) ha hg (he := he) (hpl := hpl)
theorem mb_isi (hm : X.mg "isinstance" = none) (ha : PA X [e, e2] (rdA c a)) (hK : c.K = X.K := by rfl) (hg : Gl X "isinstance" := by rfl) (he : starEach [e, e2] X.env = (false, eval e X.env) :: starEach [e2] X.env := by rfl) (hpl : (backTo pos (starEach [e2] X.env)).any (·.1) = false := by rfl) : PE X (.Call (.Name "isinstance" p) [e, e2] [] pos) (rdE c (mBlt bIsi a)) :=
  me_blt call_isi (by rw [← hK]; exact cs_isi) hm (by decide +kernel) ha hg (he := he) (hpl := hpl)
end
end Tm
set_option Elab.async false
set_option linter.all false
set_option maxRecDepth 100000
set_option maxHeartbeats 2000000
namespace Tm
open PySem L2
open Evl (Ex ex_rd ex_l ex_t)
section
variable {X : Cx} {c : Ct} {p pos apos cpos : Pos} {e e2 : Expr} {es : List Expr} {a b : ME} {m : MA} {x : Str} {i : Nat}
def isOwn (ρ : Env) (i : Nat) : Bool := match ρ[i]? with | some (some (.own _)) => true | _ => false
theorem own_rs {F Hk H : Hp} {bp : List (Nat × Addr)} {σ : St} {ρ : Env} {i : Nat} (S : At c F Hk H bp σ ρ) (h : isOwn ρ i = true) : ∃ q vs, σ[i]? = some (some (.ref q)) ∧ H q = some (.lst vs) := by
  unfold isOwn at h
  split at h
  · rename_i xs e
    obtain ⟨q, vs, e1, e2, _⟩ := S.1.getOwn e
    exact ⟨q, vs, e1, e2⟩
  · cases h
theorem change_rs {F Hk H : Hp} {bp : List (Nat × Addr)} {σ : St} {ρ : Env} {i : Nat} {xs ys : List MV} {q : Addr} (S : At c F Hk H bp σ ρ) (h : ρ[i]? = some (some (.own xs))) (eq : σ[i]? = some (some (.ref q))) :
    ∃ vs, H q = some (.lst vs) ∧ RVs c.K Hk xs vs ∧ ∀ ws, RVs c.K Hk ys ws → RS c.K F Hk (upd H q (.lst ws)) bp σ (ρ.set i (some (.own ys))) := by
  obtain ⟨p, vs, e1, e2, e3, e4⟩ := S.1.change (ys := ys) h
  rw [eq] at e1
  cases e1
  exact ⟨vs, e2, e3, e4⟩
def mLm (f : List MV → List MV → Option (List MV × MV)) (i : Nat) (a : MA) : ME := fun ρ => if isOwn ρ i then (a ρ).bind fun ys ρ1 => match ρ1[i]? with
  | some (some (.own xs)) => (match f xs ys with | some (zs, z) => .ok (z, ρ1.set i (some (.own zs))) | none => .stuck)
  | _ => .stuck else .stuck
def LmS (K : PySem.W.Frag) (f : List MV → List MV → Option (List MV × MV)) (r : V → List V → Hp → VK → Prop) : Prop := ∀ (xs ys zs : List MV) (z : MV) (q : Addr) (vs us : List V) (Hk H : Hp) (Q : VK), f xs ys = some (zs, z) → Ex Hk H → H q = some (.lst vs) → RVs K Hk xs vs → RVs K Hk ys us →
  (∀ ws u, RVs K Hk zs ws → RV K Hk z u → Q u (upd H q (.lst ws))) → r (.ref q) us H Q
theorem rd_lm {f : List MV → List MV → Option (List MV × MV)} {r : V → List V → Hp → VK → Prop} (o : LmS c.K f r) {σ : St} {H : Hp} {Q : VK} (h : rdE c (mLm f i m) σ H Q) : tBM c.K "list" r (tVar i) (rdA c m) σ H Q := by
  obtain ⟨F, Hk, bp, ρ, S, h⟩ := h
  unfold mLm at h
  split at h
  · rename_i ho
    obtain ⟨q, vs0, eq, hq⟩ := own_rs S ho
    refine ⟨_, eq, .inl ⟨rfl, _, SqL.of hq⟩, ?_⟩
    refine rdAw (bA postE S h) fun us H1 ⟨Hk1, ys, ρ1, x1, S1, r1, h1⟩ => ?_
    split at h1
    · rename_i xs ex
      split at h1
      · rename_i zs z ef
        obtain ⟨vs, g1, g2, g3⟩ := change_rs (ys := zs) S1 ex eq
        exact o xs ys zs z q vs us Hk1 H1 Q ef S1.1.ex g1 g2 r1 fun ws u r2 r3 => h1 _ _ u (Ex.refl _) (g3 ws r2) r3
      · exact h1.elim
    · exact h1.elim
  · exact h.elim
def lmAppend : List MV → List MV → Option (List MV × MV)
  | xs, [y] => if decide (xs.length < sizeLine) then some (xs ++ [y], .non) else none
  | _, _ => none
theorem ls_append {K : PySem.W.Frag} : LmS K lmAppend rAppend := by
  intro xs ys zs z q vs us Hk H Q e ex hq r1 r2 k
  unfold lmAppend at e
  split at e
  · split at e
    · rename_i h
      cases e
      obtain ⟨v, rfl, rv⟩ := rvs1 r2
      refine ⟨q, vs, v, rfl, rfl, hq, by rw [r1.length]; exact of_decide_eq_true h, k _ _ (r1.append ?_) (RV.non.mpr rfl)⟩
      exact RVs.cons.mpr ⟨v, [], rfl, rv, RVs.nil.mpr rfl⟩
    · cases e
  · cases e
theorem me_lm1 {f : List MV → List MV → Option (List MV × MV)} {r : V → List V → Hp → VK → Prop} {id : String} {name : Str} (o : LmS c.K f r) (slot : Slot "list" name id) (hty : typeOf (.builtin id) = pure (.type "method_descriptor")) (hm : MtR X id r) (hN : X.N[i]? = some x) (hv : Vis X.env.scope x) (ha : PA X (e :: es) (rdA c m)) (hK : c.K = X.K := by rfl)
    (hbase : attributeBase (.Name x p) name X.env (eval (.Name x p) X.env) = eval (.Name x p) X.env := by rfl)
    (hfew : ((backTo cpos (starEach (e :: es) X.env)).all (fun x => !x.1) && (backToKw cpos (keywordEach [] X.env)).all (fun x => x.1.isSome)
      && decide ((e :: es).length + ([] : List Keyword).length + (if ([] : List Keyword).isEmpty then 0 else 1) < 30)) = true := by rfl)
    (hline : (apos.endLine == cpos.line) = true := by rfl) (hs : starEach (e :: es) X.env = (false, eval e X.env) :: starEach es X.env := by rfl) (hplain : (backTo cpos (starEach es X.env)).any (·.1) = false := by rfl)
    (hd : (x == ("__debug__" : Str)) = false := by decide) (hcd : (x == ("__classdict__" : Str)) = false := by decide) : PE X (.Call (.Attribute (.Name x p) name apos) (e :: es) [] cpos) (rdE c (mLm f i m)) :=
  PEw (pe_bm PySem.F.plainAttrs_list slot hty hm (pe_var hN hv hd hcd) ha hbase hfew hline hs hplain) fun σ H Q h => by
    have := rd_lm o h
    rw [hK] at this
    exact this
end
end Tm
set_option Elab.async false
set_option linter.all false
set_option maxRecDepth 100000
set_option maxHeartbeats 2000000
namespace Tm
open PySem L2
open Evl (Ex ex_rd ex_l ex_t)
inductive Tgt where
  | nm (i : Nat) | tp (is : List Nat) | tn (is : List Nat) (j : Nat)
def gsOf : List Nat → TGs
  | [] => gNil
  | i :: is => gCons (gName i) (gsOf is)
def gOf (K : PySem.W.Frag) : Tgt → TG
  | .nm i => gName i
  | .tp is => gTup K is.length (gsOf is)
  | .tn is j => gTup K 2 (gCons (gTup K is.length (gsOf is)) (gCons (gName j) gNil))
def setAll : List Nat → List MV → Env → Option Env
  | [], [], ρ => some ρ
  | i :: is, x :: xs, ρ => if i < ρ.length then setAll is xs (ρ.set i (some x)) else none
  | _, _, _ => none
def setT (t : Tgt) (x : MV) (ρ : Env) : Option Env := match t with
  | .nm i => if i < ρ.length then some (ρ.set i (some x)) else none
  | .tp is => match x with
    | .tup xs => if xs.length = is.length then setAll is xs ρ else none
    | _ => none
  | .tn is j => match x with
    | .tup [.tup xs, y] => if xs.length = is.length then (setAll is xs ρ).bind fun ρ1 => if j < ρ1.length then some (ρ1.set j (some y)) else none else none
    | _ => none
def Tgt.slots : Tgt → List Nat
  | .nm i => [i]
  | .tp is => is
  | .tn is j => is ++ [j]
theorem wipe_get (σ : St) : ∀ (vs : List Nat) (j : Nat), (wipe σ vs)[j]? = if j ∈ vs ∧ j < σ.length then some none else σ[j]?
  | [], j => by simp [wipe]
  | v :: vs, j => by
    unfold wipe
    by_cases e : v = j
    · subst e
      by_cases hl : v < σ.length
      · rw [List.getElem?_set_self (by rw [wipe_length]; exact hl), if_pos ⟨by simp, hl⟩]
      · rw [if_neg (by intro h; exact hl h.2), List.getElem?_eq_none (by rw [List.length_set, wipe_length]; omega), List.getElem?_eq_none (by omega)]
    · rw [List.getElem?_set_ne e, wipe_get σ vs j]
      by_cases hm : j ∈ vs ∧ j < σ.length
      · rw [if_pos hm, if_pos ⟨List.mem_cons_of_mem _ hm.1, hm.2⟩]
      · rw [if_neg hm, if_neg (fun h => hm ⟨(List.mem_cons.mp h.1).resolve_left (Ne.symm e), h.2⟩)]
theorem wipe_set {σ : St} {vs : List Nat} {i : Nat} {y : Option V} (h : i ∈ vs) : wipe (σ.set i y) vs = wipe σ vs := by
  refine List.ext_getElem? fun j => ?_
  rw [wipe_get, wipe_get, List.length_set]
  by_cases hm : j ∈ vs ∧ j < σ.length
  · rw [if_pos hm, if_pos hm]
  · rw [if_neg hm, if_neg hm]
    by_cases e : i = j
    · subst e
      have : σ.length ≤ i := Nat.le_of_not_lt fun z => hm ⟨h, z⟩
      rw [List.getElem?_eq_none (by simpa using this), List.getElem?_eq_none this]
    · rw [List.getElem?_set_ne e]
theorem wipe_wipe (σ : St) (vs : List Nat) : wipe (wipe σ vs) vs = wipe σ vs := by
  refine List.ext_getElem? fun j => ?_
  rw [wipe_get, wipe_length, wipe_get]
  by_cases hm : j ∈ vs ∧ j < σ.length
  · rw [if_pos hm, if_pos hm]
  · rw [if_neg hm]
def wipeM (ρ : Env) : List Nat → Env
  | [] => ρ
  | v :: vs => (wipeM ρ vs).set v none
theorem wipeM_len (ρ : Env) : ∀ vs : List Nat, (wipeM ρ vs).length = ρ.length
  | [] => rfl
  | v :: vs => by unfold wipeM; rw [List.length_set, wipeM_len ρ vs]
theorem wipeM_get (σ : Env) : ∀ (vs : List Nat) (j : Nat), (wipeM σ vs)[j]? = if j ∈ vs ∧ j < σ.length then some none else σ[j]?
  | [], j => by simp [wipeM]
  | v :: vs, j => by
    unfold wipeM
    by_cases e : v = j
    · subst e
      by_cases hl : v < σ.length
      · rw [List.getElem?_set_self (by rw [wipeM_len]; exact hl), if_pos ⟨by simp, hl⟩]
      · rw [if_neg (by intro h; exact hl h.2), List.getElem?_eq_none (by rw [List.length_set, wipeM_len]; omega), List.getElem?_eq_none (by omega)]
    · rw [List.getElem?_set_ne e, wipeM_get σ vs j]
      by_cases hm : j ∈ vs ∧ j < σ.length
      · rw [if_pos hm, if_pos ⟨List.mem_cons_of_mem _ hm.1, hm.2⟩]
      · rw [if_neg hm, if_neg (fun h => hm ⟨(List.mem_cons.mp h.1).resolve_left (Ne.symm e), h.2⟩)]
def perAt (ρ : Env) (vs : List Nat) : Bool := vs.all fun i => match ρ[i]? with
  | some (some x) => x.per
  | _ => true
def backM (ρ ρ' : Env) (vs : List Nat) : Env := vs.foldl (fun r i => r.set i ((ρ[i]?).join)) ρ'
section
variable {K : PySem.W.Frag} {F Hk H : Hp} {bp : List (Nat × Addr)} {σ : St} {ρ : Env}
theorem SL.setNone {ow : Nat → List Addr} (S : SL K F Hk H ow σ ρ) {i : Nat} : SL K F Hk H (put ow i []) (σ.set i none) (ρ.set i none) := by
  refine ⟨fun j y h => ?_, fun j a h => ?_, fun j h => ?_, fun j k a hjk h => ?_⟩
  · rcases set_get h with ⟨_, e⟩ | ⟨ne, e⟩
    · cases e
    · obtain ⟨u, e1, e2⟩ := S.s j y e
      exact ⟨u, by rw [List.getElem?_set_ne (Ne.symm ne)]; exact e1, by rw [put_ne ne]; exact e2⟩
  · by_cases e : j = i
    · rw [e, put_same] at h; cases h
    · rw [put_ne e] at h; exact S.f j a h
  · by_cases e : j = i
    · rw [e, put_same] at h; exact (h rfl).elim
    · rw [put_ne e] at h; rw [List.length_set]; exact S.w j h
  · by_cases e : j = i
    · rw [e, put_same] at h; cases h
    · rw [put_ne e] at h
      by_cases e2 : k = i
      · rw [e2, put_same]; simp
      · rw [put_ne e2]; exact S.d j k a hjk h
theorem RS.setNone (S : RS K F Hk H bp σ ρ) {i : Nat} (hb : ∀ q ∈ bp, q.1 ≠ i) : RS K F Hk H bp (σ.set i none) (ρ.set i none) := by
  obtain ⟨ow, s⟩ := S.ow
  exact ⟨by simp [S.len], S.ex, S.fr, S.frk, ⟨_, s.setNone⟩, fun q hq => by rw [List.getElem?_set_ne (Ne.symm (hb q hq))]; exact S.bor q hq⟩
theorem RS.wipe (S : RS K F Hk H bp σ ρ) : ∀ vs : List Nat, (∀ q ∈ bp, q.1 ∉ vs) → RS K F Hk H bp (L2.wipe σ vs) (wipeM ρ vs)
  | [], _ => S
  | v :: vs, hb => (RS.wipe S vs fun q hq z => hb q hq (List.mem_cons_of_mem _ z)).setNone fun q hq z => hb q hq (by rw [z]; simp)
theorem RS.back (S : RS K F Hk H bp (L2.wipe σ vs) (wipeM ρ' vs)) (S0 : ∀ i ∈ vs, ∀ x, ρ[i]? = some (some x) → ∃ v, σ[i]? = some (some v) ∧ RV K Hk x v) (hl : ρ.length = ρ'.length) (hl2 : σ.length = ρ.length) (hb : ∀ q ∈ bp, q.1 ∉ vs) : RS K F Hk H bp σ (backM ρ ρ' vs) := by
  have gb : ∀ (vs : List Nat) (r : Env) (j : Nat), r.length = ρ.length → (vs.foldl (fun r i => r.set i ((ρ[i]?).join)) r)[j]? = if j ∈ vs ∧ j < ρ.length then some ((ρ[j]?).join) else r[j]? := fun vs => by
    induction vs with
    | nil => intro r j _; simp
    | cons v vs ih =>
      intro r j hr
      rw [List.foldl_cons, ih _ j (by rw [List.length_set]; exact hr)]
      by_cases hm : j ∈ vs ∧ j < ρ.length
      · rw [if_pos hm, if_pos ⟨List.mem_cons_of_mem _ hm.1, hm.2⟩]
      · rw [if_neg hm]
        by_cases e : v = j
        · subst e
          by_cases hl : v < ρ.length
          · rw [List.getElem?_set_self (by rw [hr]; exact hl), if_pos ⟨by simp, hl⟩]
          · rw [if_neg (by intro h; exact hl h.2), List.getElem?_eq_none (by rw [List.length_set, hr]; omega), List.getElem?_eq_none (by omega)]
        · rw [List.getElem?_set_ne e, if_neg (fun h => hm ⟨(List.mem_cons.mp h.1).resolve_left (Ne.symm e), h.2⟩)]
  have gl : ∀ (vs : List Nat) (r : Env), (vs.foldl (fun r i => r.set i ((ρ[i]?).join)) r).length = r.length := fun vs => by
    induction vs with
    | nil => intro r; rfl
    | cons v vs ih => intro r; rw [List.foldl_cons, ih, List.length_set]
  obtain ⟨ow, s⟩ := S.ow
  have lb : (backM ρ ρ' vs).length = ρ.length := by unfold backM; rw [gl, ← hl]
  refine ⟨by rw [lb, hl2], S.ex, S.fr, S.frk, ⟨fun j => if j ∈ vs then [] else ow j, fun j y h => ?_, fun j a h => ?_, fun j h => ?_, fun j k a hjk h => ?_⟩, fun q hq => ?_⟩
  · unfold backM at h
    rw [gb vs ρ' j hl.symm] at h
    by_cases hm : j ∈ vs ∧ j < ρ.length
    · rw [if_pos hm] at h
      have e : ρ[j]? = some (some y) := by
        cases er : ρ[j]? with
        | none => rw [er] at h; cases h
        | some o => rw [er] at h; cases o with
          | none => cases h
          | some z => cases h; rfl
      obtain ⟨v, e1, r⟩ := S0 j hm.1 y e
      exact ⟨v, e1, by rw [if_pos hm.1]; exact r.ov⟩
    · rw [if_neg hm] at h
      have nj : j ∉ vs := fun z => hm ⟨z, by rw [hl]; exact lt_get h⟩
      obtain ⟨v, e1, o⟩ := s.s j y (by rw [wipeM_get, if_neg (fun z => nj z.1)]; exact h)
      rw [wipe_get, if_neg (fun z => nj z.1)] at e1
      exact ⟨v, e1, by rw [if_neg nj]; exact o⟩
  · by_cases e : j ∈ vs
    · rw [if_pos e] at h; cases h
    · rw [if_neg e] at h; exact s.f j a h
  · by_cases e : j ∈ vs
    · rw [if_pos e] at h; exact (h rfl).elim
    · rw [if_neg e] at h; have := s.w j h; rw [wipeM_len] at this; rw [lb, hl]; exact this
  · by_cases e : j ∈ vs
    · rw [if_pos e] at h; cases h
    · rw [if_neg e] at h
      by_cases e2 : k ∈ vs
      · rw [if_pos e2]; simp
      · rw [if_neg e2]; exact s.d j k a hjk h
  · have := S.bor q hq
    rw [wipe_get, if_neg (fun z => hb q hq z.1)] at this
    exact this
end
section
variable {X : Cx} {c : Ct}
theorem gs_rd {F Hk H : Hp} {bp : List (Nat × Addr)} {vs0 : List Nat} (hb : ∀ q ∈ bp, q.1 ∉ vs0) : ∀ (is : List Nat) (xs : List MV) (ws : List V) (σ : St) (ρ ρ' : Env) (Q : St → Hp → Prop), (∀ i ∈ is, i ∈ vs0) → RS c.K F Hk H bp σ ρ → RVs c.K Hk xs ws → setAll is xs ρ = some ρ' →
    (∀ σ', RS c.K F Hk H bp σ' ρ' → wipe σ' vs0 = wipe σ vs0 → Q σ' H) → gsOf is ws σ H Q
  | [], [], ws, σ, ρ, ρ', Q, _, S, r, e, k => by
    cases e
    exact ⟨RVs.nil.mp r, k σ S rfl⟩
  | [], x :: xs, ws, σ, ρ, ρ', Q, _, S, r, e, k => by cases e
  | i :: is, [], ws, σ, ρ, ρ', Q, _, S, r, e, k => by cases e
  | i :: is, x :: xs, ws, σ, ρ, ρ', Q, hi, S, r, e, k => by
    obtain ⟨v, us, rfl, r1, r2⟩ := RVs.cons.mp r
    unfold setAll at e
    split at e
    · rename_i hl
      have hm := hi i (by simp)
      refine ⟨v, us, rfl, ?_⟩
      refine gs_rd hb is xs us _ _ ρ' Q (fun j hj => hi j (List.mem_cons_of_mem _ hj)) (S.set hl r1 fun q hq z => hb q hq (z ▸ hm)) r2 e fun σ' S' w => k σ' S' (by rw [w, wipe_set hm])
    · cases e
theorem g_rd {F Hk H : Hp} {bp : List (Nat × Addr)} {vs0 : List Nat} (hb : ∀ q ∈ bp, q.1 ∉ vs0) {t : Tgt} {x : MV} {v : V} {σ : St} {ρ ρ' : Env} {Q : St → Hp → Prop} (hi : ∀ i ∈ t.slots, i ∈ vs0) (S : RS c.K F Hk H bp σ ρ) (r : RV c.K Hk x v) (e : setT t x ρ = some ρ')
    (k : ∀ σ', RS c.K F Hk H bp σ' ρ' → wipe σ' vs0 = wipe σ vs0 → Q σ' H) : gOf c.K t v σ H Q := by
  cases t with
  | nm i =>
    have e : (if i < ρ.length then some (ρ.set i (some x)) else none) = some ρ' := e
    split at e
    · rename_i hl
      cases e
      have hm := hi i (by simp [Tgt.slots])
      exact k _ (S.set hl r fun q hq z => hb q hq (z ▸ hm)) (wipe_set hm)
    · cases e
  | tp is =>
    cases x with
    | tup xs =>
      have e : (if xs.length = is.length then setAll is xs ρ else none) = some ρ' := e
      split at e
      · rename_i hl
        obtain ⟨a, ws, rfl, h1, s1⟩ := RV.tup.mp r
        exact ⟨a, ws, rfl, ex_t S.ex h1, by rw [s1.length, hl], gs_rd hb is xs ws σ ρ ρ' Q hi S s1 e k⟩
      · cases e
    | _ => cases e
  | tn is j =>
    unfold setT at e
    dsimp only at e
    split at e
    · rename_i xs y
      split at e
      · rename_i hl
        obtain ⟨a, ws, rfl, h1, s1⟩ := RV.tup.mp r
        obtain ⟨v1, w1, rfl, q1, s2⟩ := RVs.cons.mp s1
        obtain ⟨v2, w2, rfl, q2, s3⟩ := RVs.cons.mp s2
        rw [RVs.nil] at s3
        subst s3
        obtain ⟨b, us, rfl, h2, t1⟩ := RV.tup.mp q1
        obtain ⟨ρ1, e1, e2⟩ := Option.bind_eq_some_iff.mp e
        refine ⟨a, _, rfl, ex_t S.ex h1, rfl, ?_⟩
        refine ⟨.ref b, [v2], rfl, b, us, rfl, ex_t S.ex h2, by rw [t1.length, hl], gs_rd hb is xs us σ ρ ρ1 (fun σ' H' => gCons (gName j) gNil [v2] σ' H' Q) (fun i h => hi i (List.mem_append_left _ h)) S t1 e1 fun σ1 S1 z1 => ?_⟩
        split at e2
        · rename_i hj
          cases e2
          have hm := hi j (List.mem_append_right _ (List.mem_singleton.mpr rfl))
          exact ⟨v2, [], rfl, rfl, k _ (S1.set hj q2 fun q hq z => hb q hq (z ▸ hm)) (by rw [wipe_set hm, z1])⟩
        · cases e2
      · cases e
    · cases e
def Res.b0 {α β : Type} (r : Res (α × Env)) (f : α → Env → Res (β × Env)) : Res (β × Env) :=
  match r with
  | .ok (x, ρ) => f x ρ
  | _ => .stuck
def mLcLoop (g : Tgt) (t : MT) (e : ME) (vs : List Nat) : List MV → List MV → Env → Res (List MV × Env)
  | [], acc, ρ => .ok (acc, ρ)
  | x :: xs, acc, ρ => match setT g x (wipeM ρ vs) with
    | none => .stuck
    | some ρ1 => (t ρ1).b0 fun b ρ2 => if b then (e ρ2).b0 fun y ρ3 => (if acc.length < sizeLine ∧ ρ3.length = ρ.length then mLcLoop g t e vs xs (acc ++ [y]) ρ3 else .stuck) else if ρ2.length = ρ.length then mLcLoop g t e vs xs acc ρ2 else .stuck
def mYes : MT := fun ρ => .ok (true, ρ)
def mLcO (it : MI) (g : Tgt) (t : MT) (e : ME) (vs : List Nat) : ME := fun ρ => (it ρ).bind fun xs ρ1 => if perAt ρ1 vs then (mLcLoop g t e vs xs [] ρ1).b0 fun ys ρ2 => .ok (.own ys, backM ρ1 ρ2 vs) else .stuck
theorem b0E {F Hk H : Hp} {bp : List (Nat × Addr)} {σ : St} {ρ : Env} {β : Type} {P : Hp → Res (β × Env) → Prop} (st : ∀ Hk, ¬ P Hk .stuck) (mo : ∀ Hk Hk' r, Ex Hk Hk' → P Hk r → P Hk' r) {a : ME} {k : MV → Env → Res (β × Env)} (S : At c F Hk H bp σ ρ) (h : P Hk ((a ρ).b0 k)) :
    rdE c a σ H fun v H1 => ∃ Hk1 x ρ1, Ex Hk Hk1 ∧ At c F Hk1 H1 bp σ ρ1 ∧ RV c.K Hk1 x v ∧ P Hk1 (k x ρ1) := by
  refine ⟨F, Hk, bp, ρ, S, ?_⟩
  cases e : a ρ with
  | stuck => rw [e] at h; exact st _ h
  | exc x ρ' => rw [e] at h; exact (st _ h).elim
  | ok q =>
    rw [e] at h
    exact fun Hk1 H1 v x1 S1 r1 => ⟨Hk1, q.1, q.2, x1, ⟨S1, S.2⟩, r1, mo _ _ _ x1 h⟩
theorem b0T {F Hk H : Hp} {bp : List (Nat × Addr)} {σ : St} {ρ : Env} {β : Type} {P : Hp → Res (β × Env) → Prop} (st : ∀ Hk, ¬ P Hk .stuck) (mo : ∀ Hk Hk' r, Ex Hk Hk' → P Hk r → P Hk' r) {a : MT} {k : Bool → Env → Res (β × Env)} (S : At c F Hk H bp σ ρ) (h : P Hk ((a ρ).b0 k)) :
    rdT c a σ H fun b H1 => ∃ Hk1 ρ1, Ex Hk Hk1 ∧ At c F Hk1 H1 bp σ ρ1 ∧ P Hk1 (k b ρ1) := by
  refine ⟨F, Hk, bp, ρ, S, ?_⟩
  cases e : a ρ with
  | stuck => rw [e] at h; exact st _ h
  | exc x ρ' => rw [e] at h; exact (st _ h).elim
  | ok q =>
    rw [e] at h
    exact fun Hk1 H1 x1 S1 => ⟨Hk1, q.2, x1, ⟨S1, S.2⟩, mo _ _ _ x1 h⟩
def okB (c : Ct) (F Hk : Hp) (bp : List (Nat × Addr)) (σ : St) (Q : VK) (ρ0 : Env) (vs : List Nat) : Res (List MV × Env) → Prop
  | .ok (ys, ρ') => okO c F Hk bp σ Q (.ok (.own ys, backM ρ0 ρ' vs))
  | _ => False
theorem okB.mono {F Hk Hk' : Hp} {bp : List (Nat × Addr)} {σ : St} {Q : VK} {ρ0 : Env} {vs : List Nat} {r : Res (List MV × Env)} (x : Ex Hk Hk') (h : okB c F Hk bp σ Q ρ0 vs r) : okB c F Hk' bp σ Q ρ0 vs r := by
  cases r with
  | ok a => exact okO.mono (r := .ok (.own a.1, backM ρ0 a.2 vs)) x h
  | exc e ρ => exact h
  | stuck => exact h
theorem RS.inFr {K : PySem.W.Frag} {F Hk H : Hp} {bp : List (Nat × Addr)} {σ : St} {ρ : Env} {D : Addr} {xs : List V} (S : RS K F Hk H bp σ ρ) (h : H D = none) : RS K (upd F D (.lst xs)) Hk (upd H D (.lst xs)) bp σ ρ := by
  have S' := S.more (o := .lst xs) h
  obtain ⟨ow, s⟩ := S.ow
  refine ⟨S.len, S'.ex, S.fr.both h, fun a o ha => ?_, ⟨ow, fun i x hx => ?_, fun i a ha => ?_, s.w, s.d⟩, S.bor⟩
  · by_cases e : a = D
    · rw [e]; exact S.ex.back h
    · rw [upd_ne e] at ha; exact S.frk a o ha
  · obtain ⟨v, ev, o⟩ := s.s i x hx
    exact ⟨v, ev, o.move (Ex.refl _) fun a ha u hu => by rw [upd_ne (ne_of_none hu h)]; exact hu⟩
  · obtain ⟨g1, g2, o, g3⟩ := s.f i a ha
    have ne := ne_of_none g3 h
    exact ⟨g1, by rw [upd_ne ne]; exact g2, o, by rw [upd_ne ne]; exact g3⟩
theorem RS.grow {K : PySem.W.Frag} {F Hk H : Hp} {bp : List (Nat × Addr)} {σ : St} {ρ : Env} {D : Addr} {xs ys : List V} (S : RS K (upd F D (.lst xs)) Hk H bp σ ρ) : RS K (upd F D (.lst ys)) Hk (upd H D (.lst ys)) bp σ ρ := by
  have hk : Hk D = none := S.frk D _ upd_same
  obtain ⟨ow, s⟩ := S.ow
  have nd : ∀ i a, a ∈ ow i → a ≠ D := fun i a ha e => by
    have := (s.f i a ha).2.1
    rw [e, upd_same] at this
    cases this
  refine ⟨S.len, S.ex.mut hk, fun a o ha => ?_, fun a o ha => ?_, ⟨ow, fun i x hx => ?_, fun i a ha => ?_, s.w, s.d⟩, S.bor⟩
  · by_cases e : a = D
    · subst e; rw [upd_same] at ha ⊢; exact ha
    · rw [upd_ne e] at ha ⊢; exact S.fr a o (by rw [upd_ne e]; exact ha)
  · by_cases e : a = D
    · rw [e]; exact hk
    · rw [upd_ne e] at ha; exact S.frk a o (by rw [upd_ne e]; exact ha)
  · obtain ⟨v, ev, o⟩ := s.s i x hx
    exact ⟨v, ev, o.move (Ex.refl _) fun a ha u hu => by rw [upd_ne (nd i a ha)]; exact hu⟩
  · obtain ⟨g1, g2, o, g3⟩ := s.f i a ha
    exact ⟨g1, by have := nd i a ha; rw [upd_ne this] at g2 ⊢; exact g2, o, by rw [upd_ne (nd i a ha)]; exact g3⟩
theorem RS.outFr {K : PySem.W.Frag} {F Hk H : Hp} {bp : List (Nat × Addr)} {σ : St} {ρ : Env} {D : Addr} {vs : List V} {xs : List MV} (S : RS K (upd F D (.lst vs)) Hk H bp σ ρ) (hF : F D = none) (r : RVs K Hk xs vs) : RS K F Hk H bp (σ ++ [some (.ref D)]) (ρ ++ [some (.own xs)]) := by
  have hk : Hk D = none := S.frk D _ upd_same
  have hH : H D = some (.lst vs) := S.fr D _ upd_same
  have up : ∀ a o, F a = some o → upd F D (.lst vs) a = some o := fun a o ha => by rw [upd_ne (ne_of_none ha hF)]; exact ha
  obtain ⟨ow, s⟩ := S.ow
  have nd : ∀ i a, a ∈ ow i → a ≠ D := fun i a ha e => by
    have := (s.f i a ha).2.1
    rw [e, upd_same] at this
    cases this
  have s' : SL K F Hk H ow σ ρ := ⟨s.s, fun i a ha => by
    obtain ⟨g1, g2, g3⟩ := s.f i a ha
    exact ⟨g1, by rw [upd_ne (nd i a ha)] at g2; exact g2, g3⟩, s.w, s.d⟩
  refine ⟨by simp [S.len], S.ex, fun a o ha => S.fr a o (up a o ha), fun a o ha => S.frk a o (up a o ha), ⟨_, s'.push S.len (A := [D]) (OV.own.mpr ⟨D, vs, rfl, rfl, hH, r⟩) (fun a ha => ?_) (fun i a ha hi => ?_)⟩, S.bor_app _⟩
  · simp at ha; subst ha; exact ⟨hk, hF⟩
  · simp at ha; subst ha; exact nd i a hi rfl
theorem rd_lc {it : MI} {g : Tgt} {t : MT} {e : ME} {vs : List Nat} {σ : St} {H : Hp} {Q : VK} (hg : ∀ i ∈ g.slots, i ∈ vs) (hbs : ∀ i ∈ vs, c.bs.contains i = false) (h : rdO c (mLcO it g t e vs) σ H Q) : tLc (rdI c it) (gOf c.K g) (rdT c t) (rdE c e) vs σ H Q := by
  obtain ⟨F, Hk, bp, ρ, S, h⟩ := h
  have hb : ∀ q ∈ bp, q.1 ∉ vs := fun q hq z => nb S.2.1 (hbs _ z) q hq rfl
  refine ⟨F, Hk, bp, ρ, S, ?_⟩
  have h : okO c F Hk bp σ Q ((it ρ).bind fun xs ρ1 => if perAt ρ1 vs then (mLcLoop g t e vs xs [] ρ1).b0 fun ys ρ2 => .ok (.own ys, backM ρ1 ρ2 vs) else .stuck) := h
  cases ei : it ρ with
  | stuck => rw [ei] at h; exact h
  | exc x ρ' => rw [ei] at h; exact h
  | ok p =>
    obtain ⟨xs, ρ1⟩ := p
    rw [ei] at h
    intro Hk1 H1 J x1 S1 wk D hD
    have h : okO c F Hk1 bp σ Q (if perAt ρ1 vs then (mLcLoop g t e vs xs [] ρ1).b0 fun ys ρ2 => .ok (.own ys, backM ρ1 ρ2 vs) else .stuck) := okO.mono x1 h
    split at h
    · rename_i hper
      have h : okB c F Hk1 bp σ Q ρ1 vs (mLcLoop g t e vs xs [] ρ1) := by
        cases e2 : mLcLoop g t e vs xs [] ρ1 with
        | ok q => rw [e2] at h; exact h
        | exc x r => rw [e2] at h; exact h
        | stuck => rw [e2] at h; exact h
      have fD : F D = none := by
        cases e : F D with
        | none => rfl
        | some o => have := S1.fr D o e; rw [hD] at this; cases this
      have p0 : ∀ i ∈ vs, ∀ x, ρ1[i]? = some (some x) → ∃ v, σ[i]? = some (some v) ∧ RV c.K Hk1 x v := fun i hi x hx => by
        have z := List.all_eq_true.mp hper i hi
        rw [hx] at z
        exact S1.get hx z
      refine ⟨fun i m H' => m = xs.length - i ∧ i ≤ xs.length ∧ ∃ Hk' ρ' acc ws, Ex Hk1 Hk' ∧ RS c.K (upd F D (.lst ws)) Hk' H' bp (wipe σ vs) (wipeM ρ' vs) ∧ RVs c.K Hk' acc ws ∧ ρ'.length = ρ1.length ∧ okB c F Hk' bp σ Q ρ1 vs (mLcLoop g t e vs (xs.drop i) acc ρ'),
        ⟨xs.length, by simp, Nat.zero_le _, Hk1, ρ1, [], [], Ex.refl _, (S1.wipe vs hb).inFr hD, RVs.nil.mpr rfl, rfl, h⟩, ?_⟩
      rintro i m H' ⟨rfl, hi, Hk', ρ', acc, ws, x', S', ra, hl, h'⟩
      by_cases hlt : i < xs.length
      · refine .inr ⟨wk.go i H' (x'.trans S'.ex) hlt, fun H2 => ∃ Hk2 ρ2 acc2 ws2, Ex Hk1 Hk2 ∧ RS c.K (upd F D (.lst ws2)) Hk2 H2 bp (wipe σ vs) (wipeM ρ2 vs) ∧ RVs c.K Hk2 acc2 ws2 ∧ ρ2.length = ρ1.length ∧ okB c F Hk2 bp σ Q ρ1 vs (mLcLoop g t e vs (xs.drop (i + 1)) acc2 ρ2),
          fun H2 z => ⟨xs.length - (i + 1), by omega, rfl, hlt, z⟩, fun x H2 y => ?_⟩
        obtain ⟨z, ez, hz⟩ := wk.yld i H' x H2 (x'.trans S'.ex) hlt y
        have ed : xs.drop i = z :: xs.drop (i + 1) := by
          rw [List.drop_eq_getElem_cons hlt]
          rw [List.getElem?_eq_getElem hlt] at ez
          cases ez; rfl
        rw [ed] at h'
        have st : ∀ Hk, ¬ okB c F Hk bp σ Q ρ1 vs .stuck := fun _ f => f
        have mo : ∀ Hk Hk' r, Ex Hk Hk' → okB c F Hk bp σ Q ρ1 vs r → okB c F Hk' bp σ Q ρ1 vs r := fun _ _ _ x h => okB.mono x h
        have fin : ∀ Hk3, Ex Hk' Hk3 → RS c.K (upd F D (.lst ws)) Hk3 H2 bp (wipe σ vs) (wipeM ρ' vs) → RV c.K Hk3 z x →
            gOf c.K g x (wipe σ vs) H2 fun σ2 H2 => wipe σ2 vs = wipe σ vs ∧ rdT c t σ2 H2 fun b H3 => if b = true then rdE c e σ2 H3 fun y H4 => ∃ acc, H4 D = some (.lst acc) ∧ acc.length < sizeLine ∧
              (∃ Hk2 ρ2 acc2 ws2, Ex Hk1 Hk2 ∧ RS c.K (upd F D (.lst ws2)) Hk2 (upd H4 D (.lst (acc ++ [y]))) bp (wipe σ vs) (wipeM ρ2 vs) ∧ RVs c.K Hk2 acc2 ws2 ∧ ρ2.length = ρ1.length ∧ okB c F Hk2 bp σ Q ρ1 vs (mLcLoop g t e vs (xs.drop (i + 1)) acc2 ρ2)) else
              ∃ Hk2 ρ2 acc2 ws2, Ex Hk1 Hk2 ∧ RS c.K (upd F D (.lst ws2)) Hk2 H3 bp (wipe σ vs) (wipeM ρ2 vs) ∧ RVs c.K Hk2 acc2 ws2 ∧ ρ2.length = ρ1.length ∧ okB c F Hk2 bp σ Q ρ1 vs (mLcLoop g t e vs (xs.drop (i + 1)) acc2 ρ2) := fun Hk3 x3 S3 r3 => by
          have h' := okB.mono x3 h'
          unfold mLcLoop at h'
          cases eg : setT g z (wipeM ρ' vs) with
          | none => rw [eg] at h'; exact h'.elim
          | some ρ3 =>
            rw [eg] at h'
            refine g_rd hb hg S3 r3 eg fun σ2 S4 w2 => ⟨by rw [w2, wipe_wipe], ?_⟩
            have w2' : wipe σ2 vs = wipe σ vs := by rw [w2, wipe_wipe]
            refine rdTw (b0T st mo ⟨S4, S.2.1, c.Jm _ _ _ (Ex.new fD) S.2.2⟩ h') fun b H3 ⟨Hk4, ρ4, x4, S5, h5⟩ => ?_
            cases b with
            | true =>
              rw [if_pos rfl] at h5 ⊢
              refine rdw (b0E st mo S5 h5) fun y H4 ⟨Hk5, yy, ρ5, x5, S6, r6, h6⟩ => ?_
              split at h6
              · rename_i hz
                have ra' := ra.mono (x3.trans (x4.trans x5))
                refine ⟨ws, S6.1.fr D _ upd_same, by rw [ra'.length]; exact hz.1, Hk5, ρ5, acc ++ [yy], ws ++ [y], x'.trans (x3.trans (x4.trans x5)), ?_, ra'.append (RVs.cons.mpr ⟨y, [], rfl, r6, RVs.nil.mpr rfl⟩), by rw [hz.2, hl], h6⟩
                have := (S6.1.wipe vs hb)
                rw [w2'] at this
                exact this.grow
              · exact h6.elim
            | false =>
              rw [if_neg (by decide)] at h5 ⊢
              split at h5
              · rename_i hz
                refine ⟨Hk4, ρ4, acc, ws, x'.trans (x3.trans x4), ?_, ra.mono (x3.trans x4), by rw [hz, hl], h5⟩
                have := (S5.1.wipe vs hb)
                rw [w2'] at this
                exact this
              · exact h5.elim
        rcases hz with ⟨rfl, r⟩ | ⟨p, us, ys, hp, rfl, rfl, rfl, r⟩
        · exact fin Hk' (Ex.refl _) S' (RV.mono x' _ _ r)
        · have xn := Ex.new (o := .tup us) (S'.ex.back hp)
          exact fin _ xn (S'.new hp) (RV.tup.mpr ⟨p, us, rfl, SqT.of upd_same, r.mono (x'.trans xn)⟩)
      · have e : i = xs.length := by omega
        subst e
        rw [List.drop_length] at h'
        refine .inl ⟨wk.stop H' (x'.trans S'.ex), ?_⟩
        have out := S'.outFr fD ra
        have bk : RS c.K (upd F D (.lst ws)) Hk' H' bp σ (backM ρ1 ρ' vs) := RS.back S' (fun i hi x hx => by
          obtain ⟨v, ev, rv⟩ := p0 i hi x hx
          exact ⟨v, ev, RV.mono x' _ _ rv⟩) hl.symm S1.len hb
        exact h' _ _ _ (Ex.refl _) (bk.outFr fD ra)
    · exact h.elim
end
end Tm
set_option Elab.async false
set_option linter.all false
set_option maxRecDepth 100000
set_option maxHeartbeats 2000000
namespace Tm
open PySem L2
theorem hbs_of {bs vs : List Nat} (h : (vs.all fun v => !bs.contains v) = true) : ∀ i ∈ vs, bs.contains i = false := fun i hi => by
  have := List.all_eq_true.mp h i hi
  simpa using this
open Evl (Ex ex_rd ex_l ex_t)
section
variable {X : Cx} {c : Ct} {elt tg iter : Expr} {ifs : List Expr} {scope : Scope} {own : List (Str × Nat)} {pos : Pos} {it : MI} {g : Tgt} {t : MT} {e : ME}
theorem mts_nil : PTs X [] (rdT c mYes) := ⟨fun pins s σ H Q I ⟨F, Hk, bp, ρ, S, h⟩ => pts_nil.run pins s σ H Q I (h _ _ (Ex.refl _) S.1)⟩
theorem mts_one {a : Expr} (h : PT X a (rdT c t)) : PTs X [a] (rdT c t) := pts_one h
theorem mo_lc (hc : X.calm = true) (hN : X.N.Nodup) (hi : PI X tg iter (rdI c it)) (ok : BlkOk X.N X.env.scope scope own) (hg : ∀ (s : Shared) (H : Hp) (C : Addr) (cl : List (Str × Addr)) (fp : List Addr), PG (X.blk s H scope (compEnvC scope cl C X.env) fp) tg (gOf X.K g))
    (ht : ∀ (s : Shared) (H : Hp) (C : Addr) (cl : List (Str × Addr)) (fp : List Addr), PTs (X.blk s H scope (compEnvC scope cl C X.env) fp) ifs (rdT c t)) (he : ∀ (s : Shared) (H : Hp) (C : Addr) (cl : List (Str × Addr)) (fp : List Addr), PE (X.blk s H scope (compEnvC scope cl C X.env) fp) elt (rdE c e))
    (hgs : ∀ i ∈ g.slots, i ∈ own.map (·.2) := by decide) (hbs : ∀ i ∈ own.map (·.2), c.bs.contains i = false := by decide) (hK : c.K = X.K := by rfl) (hs : ∀ x, foldedSetIterable iter X.env x = pure x := by intro _; rfl) :
    PE X (.ListComp elt [⟨tg, iter, ifs, 0⟩] scope pos) (rdO c (mLcO it g t e (own.map (·.2)))) := PEw (pe_lc hc hN hi ok hg ht he hs) fun σ H Q h => by rw [← hK]; exact rd_lc hgs hbs h
theorem ms_setLc {i : Nat} {y : Str} {py spos : Pos} (hc : X.calm = true) (hN : X.N.Nodup) (hy : X.N[i]? = some y) (hyl : X.env.scope.names.lookup y = some .local) (hsw : swapsWith (.ListComp elt [⟨tg, iter, ifs, 0⟩] scope pos) (some (.Name y py)) spos.line X.env = pure true)
    (hi : PI X tg iter (rdI c it)) (ok : BlkOk X.N X.env.scope scope own) (hg : ∀ (s : Shared) (H : Hp) (C : Addr) (cl : List (Str × Addr)) (fp : List Addr), PG (X.blk s H scope (compEnvC scope cl C X.env) fp) tg (gOf X.K g))
    (ht : ∀ (s : Shared) (H : Hp) (C : Addr) (cl : List (Str × Addr)) (fp : List Addr), PTs (X.blk s H scope (compEnvC scope cl C X.env) fp) ifs (rdT c t)) (he : ∀ (s : Shared) (H : Hp) (C : Addr) (cl : List (Str × Addr)) (fp : List Addr), PE (X.blk s H scope (compEnvC scope cl C X.env) fp) elt (rdE c e))
    (hb : c.bs.contains i = false := by rfl) (hgs : ∀ i ∈ g.slots, i ∈ own.map (·.2) := by decide) (hbs : ∀ i ∈ own.map (·.2), c.bs.contains i = false := by decide) (hK : c.K = X.K := by rfl) (hs : ∀ x, foldedSetIterable iter X.env x = pure x := by intro _; rfl) :
    PS X (.Assign [.Name y py] (.ListComp elt [⟨tg, iter, ifs, 0⟩] scope pos) spos) (rdS c (mSetO i (mLcO it g t e (own.map (·.2))))) := PSw (ps_setLc hc hN hy hyl hsw hi ok hg ht he hs) fun D σ H h => by
    obtain ⟨F, Hk, bp, ρ, S, h⟩ := rd_setO hb h
    rw [← hK]
    exact rd_lc hgs hbs ⟨F, Hk, bp, ρ, S, h⟩
end
theorem only_rs {K : PySem.W.Frag} {H : Hp} {a : Addr} {ns : List Int} (h : SqL K H a (ns.map V.int)) : RS K (fun _ => none) H H [] ([V.ref a].map some) ([MV.scr ns].map some) :=
  RS.args (Ex.refl _) (fun _ _ z => nomatch z) (fun _ _ z => nomatch z) (RVs.cons.mpr ⟨_, [], rfl, RV.scr.mpr ⟨a, rfl, h⟩, RVs.nil.mpr rfl⟩)
theorem walk_law {l : PySem.W.OpenLaw} {k : Nat} {q : Program} {loose : List Str} {XP : (Str → Option Value) → Heap → Prop} {YP : World → Heap → Prop} {d : DefRec} {K : Params → PySem.W.Frag} {x : Str} {f : MF}
    (hn : l.most = some 63) (hdf : d.params.defaults = []) (hr : Room k callerA) (hY : ∀ (w : World) (h : Heap), YP w h → (K w.params).In h)
    (hf : ∀ ns : List Int, ns.length ≤ 63 → ∃ bs, f [.scr ns] = .ok (.bl true, bs))
    (F : ∀ (w : World) (mg : Str → Option Value) (fa : Addr) (h : Heap), (K w.params).In h → h.Ns mainGlobals mg → mg d.name = some (.ref fa) →
      ∃ fd : FuncData, (∀ (s : Shared) (u : Value), BindsTo s fd ⟨[u], []⟩ [(x, u)]) ∧
        ∀ base : Heap, (K w.params).In base → base.Ns mainGlobals mg → FnOk l.prog w (K w.params) mg base (L2N.CX l.prog w) k fa fd [x] (spF (K w.params) mg 1 [] f)) :
    PySem.W.WalkO q loose XP YP l.row.toRowW d [] (fun f vs => PySem.call f vs) := by
  refine L2.walk_of (x := x) (K := K) (CX := fun w => L2N.CX l.prog w) (sp := fun w vs H Q E => ∃ (a : Addr) (ns : List Int), vs = [.ref a] ∧ ns.length ≤ 63 ∧ SqL (K w.params) H a (ns.map V.int) ∧ ∀ H', Q (.bl true) H') hn (by rw [sizeLine_eq]; decide) hdf hr hY (fun w mg fa h KX G hmg => ?_) (fun w H a ns hl _ hS => ⟨a, ns, rfl, hl, hS, fun _ => rfl⟩) ?_
  · obtain ⟨fd, hb, hF⟩ := F w mg fa h KX G hmg
    refine ⟨fd, hb, fun base h1 h2 => (hF base h1 h2).imp ?_⟩
    rintro vs H Q E ⟨a, ns, rfl, hl, hS, q⟩
    obtain ⟨bs, e⟩ := hf ns hl
    refine ⟨rfl, fun _ => none, H, [], [.scr ns], only_rs hS, rfl, ?_⟩
    rw [e]
    intro Hk' H' w x S'
    have bl : bs.length = 0 := by have := S'.len; simpa using this.symm
    have be : bs = [] := List.eq_nil_of_length_eq_zero bl
    subst be
    obtain ⟨v, ev, rv⟩ := S'.get (i := 0) (x := .bl true) rfl rfl
    cases ev
    rw [RV.bl.mp rv]
    exact q _
  · rintro w H s e s' ⟨_, _, _, _, _, _, _, _, _, _, _, _, f⟩
    exact f
structure Fd (P : Program) (w : World) (K : PySem.W.Frag) (mg : Str → Option Value) (base : Heap) (x : Str) (k : Nat) (ps : List Str) (bs : List Nat) (f : MF) : Prop where
  ex : ∃ (a : Addr) (fd : FuncData), FnOk P w K mg base (L2N.CX P w) k a fd ps (spF K mg ps.length bs f) ∧ mg x = some (.ref a) ∧ PySem.W.keepIn K (.ref a) = true ∧ Binds K fd ps []
structure Bn (mg : Str → Option Value) : Prop where
  len : mg "len" = none
  range : mg "range" = none
  abs : mg "abs" = none
  max : mg "max" = none
  min : mg "min" = none
  int : mg "int" = none
  str : mg "str" = none
  tuple : mg "tuple" = none
  list : mg "list" = none
  all : mg "all" = none
  any : mg "any" = none
  isinstance : mg "isinstance" = none
  divmod : mg "divmod" = none
  sum : mg "sum" = none
  zip : mg "zip" = none
  enumerate : mg "enumerate" = none
  reversed : mg "reversed" = none
  sorted : mg "sorted" = none
  dict : mg "dict" = none
  set : mg "set" = none
  bool : mg "bool" = none
section
variable {X : Cx} {c : Ct} {k : Nat} {ps : List Str} {x : Str} {p pos : Pos} {e : Expr} {es : List Expr} {f : MF} {a : MA} {j : Nat}
theorem mf_call (G : Fd X.prog X.w X.K X.mg X.base x k ps [] f) (hr : Room j X.A) (hj : k ≤ j) (tk : L2N.Takes X c.W) (ha : PA X (e :: es) (rdA c a)) (hn : Lng a ps.length) (hg : Gl X x := by rfl) (hK : c.K = X.K := by rfl) (hM : c.mg = X.mg := by rfl) (hdb : (x == ("__debug__" : Str)) = false := by decide)
    (he : starEach (e :: es) X.env = (false, eval e X.env) :: starEach es X.env := by rfl) (hpl : (backTo pos (starEach es X.env)).any (·.1) = false := by rfl) : PE X (.Call (.Name x p) (e :: es) [] pos) (rdO c (mCall f a)) := by
  obtain ⟨fa, fd, F, hm, hk, hb⟩ := G.ex
  exact mo_call F (hr.mono hj) hm hk hb tk ha hn hg hK hM hdb he hpl
theorem mf_call0 (G : Fd X.prog X.w X.K X.mg X.base x k ps [] f) (hr : Room j X.A) (hj : k ≤ j) (ha : PA X (e :: es) (rdA c a)) (hn : Lng a ps.length) (hg : Gl X x := by rfl) (hK : c.K = X.K := by rfl) (hM : c.mg = X.mg := by rfl) (hdb : (x == ("__debug__" : Str)) = false := by decide)
    (he : starEach (e :: es) X.env = (false, eval e X.env) :: starEach es X.env := by rfl) (hpl : (backTo pos (starEach es X.env)).any (·.1) = false := by rfl) : PE X (.Call (.Name x p) (e :: es) [] pos) (rdO c (mCall0 f a)) := by
  obtain ⟨fa, fd, F, hm, hk, hb⟩ := G.ex
  exact mo_call0 F (hr.mono hj) hm hk hb ha hn hg hK hM hdb he hpl
end
end Tm
set_option Elab.async false
set_option linter.all false
set_option maxRecDepth 100000
set_option maxHeartbeats 2000000
namespace Tm
open PySem L2
open Evl (Ex ex_rd ex_l ex_t)
def flatIs : MV → Value → Bool
  | .int i, .int j _ => i == j
  | .str i, .str j _ => i == j
  | .non, .none => true
  | .bl a, .bool b => a == b
  | _, _ => false
def flatsIs : List MV → List Value → Bool
  | [], [] => true
  | x :: xs, v :: vs => flatIs x v && flatsIs xs vs
  | _, _ => false
end Tm
set_option Elab.async false
set_option linter.all false
set_option maxRecDepth 100000
set_option maxHeartbeats 2000000
namespace Tm
open PySem L2
open Evl (Ex ex_rd ex_l ex_t)
theorem blkOk_at {N N' : List Str} {sc sc' bs : Scope} {own : List (Str × Nat)} (hN : N = N') (hs : sc = sc') (h : blkC N' sc' bs own = true) : BlkOk N sc bs own := by
  subst hN hs
  exact blkOk_by h
def mfOff : MF := fun _ => .stuck
def mRec (n : Nat) (bs : List Nat) (m : MF → MS) : Nat → MF
  | 0 => mfOff
  | k + 1 => mFn n bs (m (mRec n bs m k))
section
variable {P : Program} {w : World} {K : PySem.W.Frag} {mg : Str → Option Value} {base : Heap}
theorem spF_off {np : Nat} {bs : List Nat} {vs : List V} {H : Hp} {Q : VK} {E : XK} (h : spF K mg np bs mfOff vs H Q E) : False := by
  obtain ⟨_, _, _, _, _, _, _, h⟩ := h
  exact h
theorem fn_off {k : Nat} {f : Addr} {fd : FuncData} {ps : List Str} {np : Nat} {bs : List Nat} : FnOk P w K mg base (L2N.CX P w) k f fd ps (spF K mg np bs mfOff) :=
  ⟨fun _ _ _ _ h => (spF_off h).elim, fun _ _ _ _ _ _ _ _ _ _ _ _ _ h => (spF_off h).elim⟩
end
end Tm
set_option Elab.async false
set_option linter.all false
set_option maxRecDepth 100000
set_option maxHeartbeats 2000000
namespace Tm
open PySem L2 PySem.Spec PyProof.Rows
open Evl (Ex ex_rd ex_l ex_t)
structure Bas (K : PySem.W.Frag) (mg : Str → Option Value) (y : Str) : Prop where
  ex : ∃ CL : Addr, mg y = some (.ref CL) ∧ PySem.W.readsIn K CL (.type "type") = true ∧ PySem.W.specialIn K (.ref CL) "__getattribute__" = some (some (.builtin "type.__getattribute__")) ∧ PySem.W.findCls K (.ref CL) (.type "type") "__init__" = some (.val (.builtin "ValueError.__init__"))
section
variable {X : Cx} {y : Str} {e : Expr} {es : List Expr} {ta : TA} {p1 p2 pos : Pos}
theorem pe_linit {pl : Sem Bool} (hg : Gl X y) (B : Bas X.K X.mg y) (ha : PA X (e :: es) ta)
    (hc : eval (.Call (.Attribute (.Name y p1) "__init__" p2) (e :: es) [] pos) X.env = (do
      let ov ← eval (.Name y p1) X.env
      standAt p2.atName
      let (f, first) ← holding [ov] (getMethod ov "__init__" pl)
      callWith pos f first (backTo pos (starEach (e :: es) X.env)) (backToKw pos (keywordEach [] X.env))) := by rfl)
    (hdb : (y == ("__debug__" : Str)) = false := by decide) (he : starEach (e :: es) X.env = (false, eval e X.env) :: starEach es X.env := by rfl) (hpl : (backTo pos (starEach es X.env)).any (·.1) = false := by rfl) :
    PE X (.Call (.Attribute (.Name y p1) "__init__" p2) (e :: es) [] pos) (tVeI X.K ta) := by
  obtain ⟨CL, hm, hr, hga, hf⟩ := B.ex
  refine ⟨fun pins s σ H Q I h => ?_⟩
  refine PySem.W.methodCall_KW (ld_glob I hg hm ?_ hdb) hc
  refine PySem.W.method_cls I.kIn hga (PySem.W.cls_value I.kIn hr hf (by decide +kernel) ?_)
  show wpAny _ _ (callWith pos (Value.builtin "ValueError.__init__") [] (backTo pos (starEach (e :: es) X.env)) []) _ _ _
  refine PyProof.Rows.callWith_method1 (thn (ha.run pos pins _ σ H _ (I.tok _) h) fun us s1 ⟨vs, H1, I1, r1, a, C, ws, ev, hl, T, ea, q⟩ => ?_) he hpl
  subst ev
  cases r1 with
  | @cons _ u0 _ ur ra rw' =>
    obtain rfl : u0 = Value.ref a := ra
    have hlen : ur.length ≤ sizeLine := by
      rw [← Paired.length rw', sizeLine_eq]
      omega
    exact oinit_ok T I1 ea hlen fun s' J => ⟨.non, H1, J, rfl, q⟩
end
structure OwX (K : PySem.W.Frag) (mg : Str → Option Value) (x : Str) (C fI : Addr) : Prop where
  T : OexC K C
  m : mg x = some (.ref C)
  iC : PySem.W.findIn K (.ref C) "__init__" = some (some (.ref fI))
  tI : PySem.W.typeIn K (.ref fI) = some (.type "function")
def spI1 (K : PySem.W.Frag) (f : Str) : Sp := fun vs H Q _ => ∃ (a C : Addr) (v : V), vs = [.ref a, v] ∧ OexC K C ∧ PySem.W.findIn K (.ref C) f = some none ∧ H a = some (exo a C none) ∧
  ∀ d, H d = none → d ≠ a → Q .non (upd (upd H d (exd d [(f, v)])) a (exo a C (some d)))
def spI2 (K : PySem.W.Frag) (f g : Str) : Sp := fun vs H Q _ => ∃ (a C : Addr) (v w : V), vs = [.ref a, v, w] ∧ OexC K C ∧ PySem.W.findIn K (.ref C) f = some none ∧ PySem.W.findIn K (.ref C) g = some none ∧ H a = some (exo a C none) ∧
  ∀ d, H d = none → d ≠ a → Q .non (upd (upd (upd H d (exd d [(f, v)])) a (exo a C (some d))) d (exd d [(g, w), (f, v)]))
section
variable {P : Program} {w : World} {K : PySem.W.Frag} {mg : Str → Option Value} {base : Heap}
theorem init1 {x qual y f p t : Str} {st : Stmt} {a : Addr} {fd : FuncData} {j : Nat} {p1 p2 p3 p4 p5 p6 q1 q2 q3 q4 : Pos} (F : Fun K x qual st a fd) (S : FnScope ["self", p] ["self", p] (defScope st)) (B : Bas K mg y)
    (hb : defBody st = [.Expr (.Call (.Attribute (.Name y p1) "__init__" p2) [.Name "self" p3, .Constant (.str t) j p4] [] p5) p6, .Assign [.Attribute (.Name "self" q1) f q2] (.Name p q3) q4])
    (hy : ∀ (L : Addr) (cd : Value), (envOfC qual (defScope st) L a cd).kindOf y = some NameKind.globalImplicit) (hs : (defScope st).names.lookup ("self" : Str) = some .local) (hp : (defScope st).names.lookup p = some .local)
    (hc : ∀ env : PySem.Env, ∃ pl : Sem Bool, eval (.Call (.Attribute (.Name y p1) "__init__" p2) [.Name "self" p3, .Constant (.str t) j p4] [] p5) env = (do
      let ov ← eval (.Name y p1) env
      standAt p2.atName
      let (f, first) ← holding [ov] (getMethod ov "__init__" pl)
      callWith p5 f first (backTo p5 (starEach [.Name "self" p3, .Constant (.str t) j p4] env)) (backToKw p5 (keywordEach [] env))))
    (hy1 : (y == ("__debug__" : Str)) = false) (hp1 : (p == ("__debug__" : Str)) = false) (hp2 : (p == ("__classdict__" : Str)) = false) :
    FnOk P w K mg base (L2N.CX P w) 2 a fd ["self", p] (spI1 K f) := by
  refine okXN F S (fun vs H Q E h => ?_) (fun cdv A outer s H vs Q E hr h => ?_)
  · obtain ⟨_, _, _, rfl, _⟩ := h
    rfl
  obtain ⟨b, C, v, rfl, T, hf, hH, hq⟩ := h
  have nd := S.nd
  have hself : PE (cxOf (L2N.CX P w) P w K mg base ["self", p] qual (defScope st) a cdv A outer s H E) (.Name "self" p3) (tVar 0) := pe_var (i := 0) rfl (.inl hs)
  have hself2 : PE (cxOf (L2N.CX P w) P w K mg base ["self", p] qual (defScope st) a cdv A outer s H E) (.Name "self" q1) (tVar 0) := pe_var (i := 0) rfl (.inl hs)
  have hpar : PE (cxOf (L2N.CX P w) P w K mg base ["self", p] qual (defScope st) a cdv A outer s H E) (.Name p q3) (tVar 1) := pe_var (i := 1) rfl (.inl hp) hp1 hp2
  obtain ⟨pl, hc⟩ := hc (cxOf (L2N.CX P w) P w K mg base ["self", p] qual (defScope st) a cdv A outer s H E).env
  have h1 := pe_linit (pl := pl) (e := .Name "self" p3) (es := [.Constant (.str t) j p4]) (pos := p5) (p1 := p1) (p2 := p2) (X := cxOf (L2N.CX P w) P w K mg base ["self", p] qual (defScope st) a cdv A outer s H E) (y := y) (hy _ _) B (pa_cons hself (pa_cons pe_str pa_nil)) (hc := hc) (hdb := hy1)
  refine ⟨_, by rw [hb]; exact pss_cons (ps_expr h1) (pss_cons (ps_ost hself2 hpar) pss_nil), ?_⟩
  exact ⟨.ref b, rfl, b, C, [.str t], rfl, by simp, T, hH, v, rfl, .ref b, rfl, b, C, rfl, T, hf, .inl ⟨hH, fun dx h1 h2 => hq dx h1 h2⟩⟩
theorem init2 {x qual y f g p r t : Str} {st : Stmt} {a : Addr} {fd : FuncData} {j : Nat} {p1 p2 p3 p4 p5 p6 q1 q2 q3 q4 q5 q6 q7 q8 : Pos} (F : Fun K x qual st a fd) (S : FnScope ["self", p, r] ["self", p, r] (defScope st)) (B : Bas K mg y)
    (hb : defBody st = [.Expr (.Call (.Attribute (.Name y p1) "__init__" p2) [.Name "self" p3, .Constant (.str t) j p4] [] p5) p6, .Assign [.Attribute (.Name "self" q1) f q2] (.Name p q3) q4, .Assign [.Attribute (.Name "self" q5) g q6] (.Name r q7) q8])
    (hy : ∀ (L : Addr) (cd : Value), (envOfC qual (defScope st) L a cd).kindOf y = some NameKind.globalImplicit) (hs : (defScope st).names.lookup ("self" : Str) = some .local) (hp : (defScope st).names.lookup p = some .local) (hr0 : (defScope st).names.lookup r = some .local)
    (hc : ∀ env : PySem.Env, ∃ pl : Sem Bool, eval (.Call (.Attribute (.Name y p1) "__init__" p2) [.Name "self" p3, .Constant (.str t) j p4] [] p5) env = (do
      let ov ← eval (.Name y p1) env
      standAt p2.atName
      let (f, first) ← holding [ov] (getMethod ov "__init__" pl)
      callWith p5 f first (backTo p5 (starEach [.Name "self" p3, .Constant (.str t) j p4] env)) (backToKw p5 (keywordEach [] env))))
    (hy1 : (y == ("__debug__" : Str)) = false) (hp1 : (p == ("__debug__" : Str)) = false) (hp2 : (p == ("__classdict__" : Str)) = false) (hr1 : (r == ("__debug__" : Str)) = false) (hr2 : (r == ("__classdict__" : Str)) = false) :
    FnOk P w K mg base (L2N.CX P w) 2 a fd ["self", p, r] (spI2 K f g) := by
  refine okXN F S (fun vs H Q E h => ?_) (fun cdv A outer s H vs Q E hr h => ?_)
  · obtain ⟨_, _, _, _, rfl, _⟩ := h
    rfl
  obtain ⟨b, C, v, u, rfl, T, hf, hg, hH, hq⟩ := h
  have nd := S.nd
  have hself : PE (cxOf (L2N.CX P w) P w K mg base ["self", p, r] qual (defScope st) a cdv A outer s H E) (.Name "self" p3) (tVar 0) := pe_var (i := 0) rfl (.inl hs)
  have hself2 : PE (cxOf (L2N.CX P w) P w K mg base ["self", p, r] qual (defScope st) a cdv A outer s H E) (.Name "self" q1) (tVar 0) := pe_var (i := 0) rfl (.inl hs)
  have hpar : PE (cxOf (L2N.CX P w) P w K mg base ["self", p, r] qual (defScope st) a cdv A outer s H E) (.Name p q3) (tVar 1) := pe_var (i := 1) rfl (.inl hp) hp1 hp2
  have hself3 : PE (cxOf (L2N.CX P w) P w K mg base ["self", p, r] qual (defScope st) a cdv A outer s H E) (.Name "self" q5) (tVar 0) := pe_var (i := 0) rfl (.inl hs)
  have hpar2 : PE (cxOf (L2N.CX P w) P w K mg base ["self", p, r] qual (defScope st) a cdv A outer s H E) (.Name r q7) (tVar 2) := pe_var (i := 2) rfl (.inl hr0) hr1 hr2
  obtain ⟨pl, hc⟩ := hc (cxOf (L2N.CX P w) P w K mg base ["self", p, r] qual (defScope st) a cdv A outer s H E).env
  have h1 := pe_linit (pl := pl) (e := .Name "self" p3) (es := [.Constant (.str t) j p4]) (pos := p5) (p1 := p1) (p2 := p2) (X := cxOf (L2N.CX P w) P w K mg base ["self", p, r] qual (defScope st) a cdv A outer s H E) (y := y) (hy _ _) B (pa_cons hself (pa_cons pe_str pa_nil)) (hc := hc) (hdb := hy1)
  refine ⟨_, by rw [hb]; exact pss_cons (ps_expr h1) (pss_cons (ps_ost hself2 hpar) (pss_cons (ps_ost hself3 hpar2) pss_nil)), ?_⟩
  refine ⟨.ref b, rfl, b, C, [.str t], rfl, by simp, T, hH, v, rfl, .ref b, rfl, b, C, rfl, T, hf, .inl ⟨hH, fun dx h1 h2 => ⟨u, rfl, .ref b, rfl, b, C, rfl, T, hg, .inr ⟨dx, [(f, v)], upd_same, ?_, by simp, hq dx h1 h2⟩⟩⟩⟩
  rw [upd_ne h2, upd_same]
end
section
variable {X : Cx} {e : Expr} {es : List Expr} {ta : TA} {p pos : Pos}
theorem pmk_oexN {CX : CXT} {x : Str} {C fI : Addr} {k : Nat} {fd : FuncData} {ps : List Str} {sp : Sp} {ds : List Value} {dvs : List V} (T : OexC X.K C) (iC : PySem.W.findIn X.K (.ref C) "__init__" = some (some (.ref fI))) (tI : PySem.W.typeIn X.K (.ref fI) = some (.type "function"))
    (F1 : FnOk X.prog X.w X.K X.mg X.base CX k fI fd ps sp) (hr : Room (k + 1) X.A) (hb : L2.Binds X.K fd ps ds) (hd : Vals dvs ds) (hx : Passes CX X (fun _ _ _ => False)) (hg : Gl X x) (hm : X.mg x = some (.ref C)) (ha : PA X (e :: es) ta)
    (hdb : (x == ("__debug__" : Str)) = false := by decide) (he : starEach (e :: es) X.env = (false, eval e X.env) :: starEach es X.env := by rfl) (hpl : (backTo pos (starEach es X.env)).any (·.1) = false := by rfl) :
    L2N.PMk X (.Call (.Name x p) (e :: es) [] pos) (tMkO C sp dvs ta) := fun pins s σ H Q I h => by
  obtain ⟨_, _, _, _, bm, _, _, _, _, _, _, _, _, _, _, look, hbm⟩ := T.cls
  refine wpAny_Call_Name_kw (ld_glob I hg hm ?_ hdb)
  refine PySem.W.callWith_K (h₀ := X.base) I.ok.mod.kin T.kC (thn (ha.run pos pins s σ H _ I h) fun us s1 q0 => ⟨q0.choose_spec.choose_spec.1.kIn, ?_⟩) he hpl
  obtain ⟨vs, G, J, r, hz, q⟩ := q0
  show wpAny _ _ (call (.ref C) us) _ _ _
  obtain ⟨hp, gs, dr, tk, os⟩ := s1
  obtain ⟨n, hn⟩ : ∃ n, hp.objs.size = n := ⟨_, rfl⟩
  have le1 : hp.objs.size ≤ n + 1 := by omega
  have sp1 := q (n + 1) (J.hok.fresh le1)
  have keep : ∀ b o, hp.get? b = some o → ((hp.push (PySem.W.kdv_tup us)).push (PySem.HandSPX.excO C n)).get? b = some o := fun b o z => Heap.get?_push_of_some _ (Heap.get?_push_of_some _ z)
  have there : ((hp.push (PySem.W.kdv_tup us)).push (PySem.HandSPX.excO C n)).get? (n + 1) = some (PySem.HandSPX.excO C n) := by subst hn; heap_get
  have J2 : Inv X pins σ (upd G (n + 1) (exo (n + 1) C none)) ⟨(hp.push (PySem.W.kdv_tup us)).push (PySem.HandSPX.excO C n), gs, dr, tk, os⟩ :=
    J.laid (t' := tk) (a := n + 1) (o := exo (n + 1) C none) (h' := (hp.push (PySem.W.kdv_tup us)).push (PySem.HandSPX.excO C n)) keep le1 (exo_ok there)
  have r2 : Vals (V.ref (n + 1) :: (vs ++ dvs)) (Value.ref (n + 1) :: (us ++ ds)) := .cons rfl (r.append hd)
  have len2 : (Value.ref (n + 1) :: us ++ ds).length = ps.length := (F1.len _ _ _ _ sp1 ▸ r2.length).symm
  have small : us.length ≤ sizeLine := by
    have := Paired.length r
    rw [sizeLine_eq]; omega
  subst hn
  refine wpAny_call (PySem.HandSPX.call_own F.excBase_ValueError (fun Y => PySem.HandSPX.refsVE_contains Y bm hbm) (J.kIn _ _ look) (PySem.W.looks_findIn J.kIn iC) (fun self => PySem.W.bind_fn J.kIn self tI) small (codeAny_mono
    (F1.run _ X.stack _ _ ⟨Value.ref (hp.objs.size + 1) :: us, []⟩ (Value.ref (hp.objs.size + 1) :: (us ++ ds)) _ _ (fun _ _ _ => False) (hr.make C us []) (J2.env0.make C us []) (hb _ (Value.ref (hp.objs.size + 1) :: us) J2.kIn len2) r2 sp1) fun z s' hq => ?_))
  match z, hq with
  | .error er, hq => exact hx pins σ _ _ er s' J2 hq
  | .ok (.ret u), hq =>
    obtain ⟨v, G2, o2, b2, un2, ok2, rv, rfl, d, fs, ea, ed, hd1, w⟩ := hq
    obtain ⟨h2, g2, d2, t2, _⟩ := s'
    obtain ⟨t0, B, JB, kB, gB, at2, na⟩ := mk_end0 (d2 := d2) (t2 := t2) J le1 keep un2 ok2 o2 b2 ea ed hd1
    exact ⟨rv, ⟨_, _, _, ⟨B, g2, d2, t2, _⟩, _, .ref C, some d, rfl, JB, kB, gB, at2, ⟨rfl, rfl, fun vs hv => by cases hv; rfl⟩, rfl, rfl, na, rfl, b2, raises_own T.exC T.tyC, w⟩⟩
  | .ok .next, hq => exact hq.elim
  | .ok .brk, hq => exact hq.elim
  | .ok .cont, hq => exact hq.elim
end
theorem made_heap {H1 : Hp} {a d : Addr} {o u z : HO} (ha : H1 a = none) (hd : d ≠ a) : upd (del (upd (upd (upd H1 a o) d u) a z) a) d = upd H1 d := by
  funext y b
  by_cases e1 : b = d
  · subst e1; rw [upd_same, upd_same]
  · rw [upd_ne e1, upd_ne e1]
    by_cases e2 : b = a
    · subst e2; rw [del_same, ha]
    · rw [del_ne e2, upd_ne e2, upd_ne e1, upd_ne e2]
section
variable {X : Cx} {c : Ct} {x f g : Str} {C fI : Addr} {k : Nat} {fd : FuncData} {ps : List Str} {W : WX}
theorem never {W : WX} (tk : L2N.Takes X W) : Passes (L2N.CX X.prog X.w) X (fun _ _ _ => False) := L2N.passes_call (E := fun _ _ _ => False) tk fun _ _ _ _ z => z.elim
def tMk1 (C : Addr) (f : Str) (ta : TA) : L2.St → Hp → XK → Prop := fun σ H Q => ta σ H fun vs H1 => ∃ v, vs = [v] ∧ ∀ d, H1 d = none → Q (.ref C) (some d) (upd H1 d (.xd [(f, v)]))
def tMk2 (C : Addr) (f g : Str) (ta : TA) : L2.St → Hp → XK → Prop := fun σ H Q => ta σ H fun vs H1 => ∃ v w, vs = [v, w] ∧ ∀ d, H1 d = none → Q (.ref C) (some d) (upd H1 d (.xd [(g, w), (f, v)]))
theorem pmk1 {e : Expr} {es : List Expr} {ta : TA} {p pos : Pos} (O : OwX X.K X.mg x C fI) (hf : PySem.W.findIn X.K (.ref C) f = some none) (F1 : FnOk X.prog X.w X.K X.mg X.base (L2N.CX X.prog X.w) k fI fd ps (spI1 X.K f)) (hr : Room (k + 1) X.A) (hb : L2.Binds X.K fd ps []) (tk : L2N.Takes X W) (hg : Gl X x) (ha : PA X (e :: es) ta)
    (hm : ∀ σ H Q Q', ta σ H Q → (∀ vs H1, Q vs H1 → Q' vs H1) → ta σ H Q')
    (hdb : (x == ("__debug__" : Str)) = false := by decide) (he : starEach (e :: es) X.env = (false, eval e X.env) :: starEach es X.env := by rfl) (hpl : (backTo pos (starEach es X.env)).any (·.1) = false := by rfl) :
    L2N.PMk X (.Call (.Name x p) (e :: es) [] pos) (tMk1 C f ta) := by
  have z := pmk_oexN (p := p) (ds := []) (dvs := []) O.T O.iC O.tI F1 hr hb .nil (never tk) hg O.m ha hdb he hpl
  intro pins s σ H Q I h
  refine z pins s σ H Q I (hm σ H _ _ h fun vs H1 ⟨v, ev, q⟩ => ?_)
  subst ev
  refine ⟨by simp, fun a ha => ⟨a, C, v, rfl, O.T, hf, upd_same, fun d hd hne => ⟨rfl, d, [(f, v)], upd_same, ?_, ?_, ?_⟩⟩⟩
  · rw [upd_ne hne, upd_same]
  · rw [upd_ne hne] at hd; exact hd
  · rw [made_heap ha hne]
    exact q d (by rw [upd_ne hne] at hd; exact hd)
theorem made_heap2 {H1 : Hp} {a d : Addr} {o u z y : HO} (ha : H1 a = none) (hd : d ≠ a) : upd (del (upd (upd (upd (upd H1 a o) d u) a z) d y) a) d = upd H1 d := by
  funext r b
  by_cases e1 : b = d
  · subst e1; rw [upd_same, upd_same]
  · rw [upd_ne e1, upd_ne e1]
    by_cases e2 : b = a
    · subst e2; rw [del_same, ha]
    · rw [del_ne e2, upd_ne e1, upd_ne e2, upd_ne e1, upd_ne e2]
theorem pmk2 {e : Expr} {es : List Expr} {ta : TA} {p pos : Pos} (O : OwX X.K X.mg x C fI) (hf : PySem.W.findIn X.K (.ref C) f = some none) (hfg : PySem.W.findIn X.K (.ref C) g = some none) (F1 : FnOk X.prog X.w X.K X.mg X.base (L2N.CX X.prog X.w) k fI fd ps (spI2 X.K f g)) (hr : Room (k + 1) X.A) (hb : L2.Binds X.K fd ps []) (tk : L2N.Takes X W) (hg : Gl X x) (ha : PA X (e :: es) ta)
    (hm : ∀ σ H Q Q', ta σ H Q → (∀ vs H1, Q vs H1 → Q' vs H1) → ta σ H Q')
    (hdb : (x == ("__debug__" : Str)) = false := by decide) (he : starEach (e :: es) X.env = (false, eval e X.env) :: starEach es X.env := by rfl) (hpl : (backTo pos (starEach es X.env)).any (·.1) = false := by rfl) :
    L2N.PMk X (.Call (.Name x p) (e :: es) [] pos) (tMk2 C f g ta) := by
  have z := pmk_oexN (p := p) (ds := []) (dvs := []) O.T O.iC O.tI F1 hr hb .nil (never tk) hg O.m ha hdb he hpl
  intro pins s σ H Q I h
  refine z pins s σ H Q I (hm σ H _ _ h fun vs H1 ⟨v, w, ev, q⟩ => ?_)
  subst ev
  refine ⟨by simp, fun a ha => ⟨a, C, v, w, rfl, O.T, hf, hfg, upd_same, fun d hd hne => ⟨rfl, d, [(g, w), (f, v)], ?_, upd_same, ?_, ?_⟩⟩⟩
  · rw [upd_ne (Ne.symm hne), upd_same]
  · rw [upd_ne hne] at hd; exact hd
  · rw [made_heap2 ha hne]
    exact q d (by rw [upd_ne hne] at hd; exact hd)
end
end Tm
set_option Elab.async false
set_option linter.all false
set_option maxRecDepth 100000
set_option maxHeartbeats 2000000
namespace Tm
open PySem L2 PySem.Spec PyProof.Rows
open Evl (Ex ex_rd ex_l ex_t)
def NoX (H H' : Hp) : Prop := ∀ a o, H a = some o → (∀ fs, o ≠ .xd fs) → H' a = some o
theorem NoX.rdl {H H' : Hp} (e : NoX H H') {a : Addr} {xs : List V} (h : Rd H a (.lst xs)) : Rd H' a (.lst xs) := by
  rcases h with h | ⟨o, h⟩
  · exact Or.inl (e a _ h (fun _ z => nomatch z))
  · exact Or.inr ⟨o, e a _ h (fun _ z => nomatch z)⟩
theorem NoX.rdt {H H' : Hp} (e : NoX H H') {a : Addr} {xs : List V} (h : Rd H a (.tup xs)) : Rd H' a (.tup xs) := by
  rcases h with h | ⟨o, h⟩
  · exact Or.inl (e a _ h (fun _ z => nomatch z))
  · exact Or.inr ⟨o, e a _ h (fun _ z => nomatch z)⟩
mutual
theorem RV.sub {K : PySem.W.Frag} {H H' : Hp} (e : NoX H H') : ∀ (x : MV) (v : V), RV K H x v → RV K H' x v
  | .non, v, h => by unfold RV at h ⊢; exact h
  | .bl b, v, h => by unfold RV at h ⊢; exact h
  | .int i, v, h => by unfold RV at h ⊢; exact h
  | .str x, v, h => by unfold RV at h ⊢; exact h
  | .tup xs, v, h => by
    unfold RV at h ⊢
    obtain ⟨a, vs, e1, e2, e3⟩ := h
    exact ⟨a, vs, e1, e2.imp e.rdt id, RVs.sub e xs vs e3⟩
  | .lst xs, v, h => by
    unfold RV at h ⊢
    obtain ⟨a, vs, e1, e2, e3⟩ := h
    exact ⟨a, vs, e1, e _ _ e2 (fun _ z => nomatch z), RVs.sub e xs vs e3⟩
  | .own xs, v, h => by unfold RV at h; exact h.elim
  | .raw w, v, h => by unfold RV at h ⊢; exact h
  | .scr ns, v, h => by
    unfold RV at h ⊢
    obtain ⟨a, e1, e2⟩ := h
    exact ⟨a, e1, e2.imp e.rdl id⟩
  | .fnc x, v, h => by unfold RV at h ⊢; exact h
  | .obj C fs, v, h => by unfold RV at h; exact h.elim
  | .dct ks xs, v, h => by
    unfold RV at h ⊢
    obtain ⟨a, vs, e1, e2, e3, e4⟩ := h
    exact ⟨a, vs, e1, e _ _ e2 (fun _ z => nomatch z), e3, RVs.sub e xs vs e4⟩
  | .dow ks xs, v, h => by unfold RV at h; exact h.elim
  | .dot ks xs, v, h => by unfold RV at h; exact h.elim
  | .ols os, v, h => by unfold RV at h; exact h.elim
  | .exn C fs, v, h => by
    unfold RV at h ⊢
    obtain ⟨a, CA, d, h1, h2, h3, h4⟩ := h
    refine ⟨a, CA, d, h1, h2, e _ _ h3 (fun _ z => nomatch z), ?_⟩
    rcases h4 with h4 | ⟨dx, h5, h6⟩
    · exact .inl h4
    · exact .inr ⟨dx, h5, e _ _ h6 (fun _ z => nomatch z)⟩
theorem RVs.sub {K : PySem.W.Frag} {H H' : Hp} (e : NoX H H') : ∀ (xs : List MV) (vs : List V), RVs K H xs vs → RVs K H' xs vs
  | [], vs, h => by unfold RVs at h ⊢; exact h
  | x :: xs, vs, h => by
    unfold RVs at h ⊢
    obtain ⟨v, r, e1, e2, e3⟩ := h
    exact ⟨v, r, e1, RV.sub e x v e2, RVs.sub e xs r e3⟩
end
theorem KN.sub {K : PySem.W.Frag} {Hk Hk' : Hp} (e : NoX Hk Hk') : ∀ {ks xs : List MV} {l : List (NestedKey × Addr × V)}, KN K Hk ks xs l → KN K Hk' ks xs l
  | [], [], _, h => h
  | [], _ :: _, _, h => h.elim
  | _ :: _, [], _, h => h.elim
  | k :: ks, x :: xs, _, h => by
    obtain ⟨nk, a, v, r, h1, h2, h3, h4, h5, h6⟩ := h
    exact ⟨nk, a, v, r, h1, h2, h3, RV.sub e _ _ h4, RV.sub e _ _ h5, KN.sub e h6⟩
theorem OF.sub {K : PySem.W.Frag} {Hk Hk' H : Hp} {x : MV} {v : V} {A : List Addr} (e : NoX Hk Hk') (h : OF K Hk H x v A) : OF K Hk' H x v A := by
  cases x with
  | own xs =>
    unfold OF at h ⊢
    obtain ⟨p, vs, e1, e2, e3, e4⟩ := h
    exact ⟨p, vs, e1, e2, e3, RVs.sub e _ _ e4⟩
  | dow ks xs =>
    unfold OF at h ⊢
    obtain ⟨p, vs, e1, e2, e3, e5, e4⟩ := h
    exact ⟨p, vs, e1, e2, e3, e5, RVs.sub e _ _ e4⟩
  | dot ks xs =>
    unfold OF at h ⊢
    obtain ⟨p, l, e1, e2, e3, e4⟩ := h
    exact ⟨p, l, e1, e2, e3, KN.sub e e4⟩
  | obj C fs => exact (show False by unfold OF at h; unfold RV at h; exact h.2).elim
  | _ =>
    unfold OF at h ⊢
    exact ⟨h.1, RV.sub e _ _ h.2⟩
theorem OFs.sub {K : PySem.W.Frag} {Hk Hk' H : Hp} (e : NoX Hk Hk') : ∀ {fs : List (Str × MV)} {vs : List (Str × V)} {A : List Addr}, OFs K Hk H fs vs A → OFs K Hk' H fs vs A
  | [], _, _, h => h
  | (n, x) :: fs, vs, A, h => by
    obtain ⟨v, r, B, C, e1, e2, h1, h2⟩ := h
    exact ⟨v, r, B, C, e1, e2, h1.sub e, OFs.sub e h2⟩
theorem OB.sub {K : PySem.W.Frag} {Hk Hk' H : Hp} {x : MV} {v : V} {A : List Addr} (e : NoX Hk Hk') (h : OB K Hk H x v A) : OB K Hk' H x v A := by
  cases x with
  | obj C fs =>
    unfold OB at h ⊢
    obtain ⟨p, CA, dx, vfs, B, e1, e2, e0, e3, e4, e5⟩ := h
    exact ⟨p, CA, dx, vfs, B, e1, e2, e0, e3, OFs.sub e e4, e5⟩
  | _ => exact (show False by unfold OB at h; exact h).elim
theorem OBs.sub {K : PySem.W.Frag} {Hk Hk' H : Hp} (e : NoX Hk Hk') : ∀ {xs : List MV} {vs : List V} {A : List Addr}, OBs K Hk H xs vs A → OBs K Hk' H xs vs A
  | [], _, _, h => h
  | x :: xs, vs, A, h => by
    obtain ⟨v, r, B, C, e1, e2, h1, h2⟩ := h
    exact ⟨v, r, B, C, e1, e2, h1.sub e, OBs.sub e h2⟩
theorem OV.sub {K : PySem.W.Frag} {Hk Hk' H : Hp} {x : MV} {v : V} {A : List Addr} (e : NoX Hk Hk') (h : OV K Hk H x v A) : OV K Hk' H x v A := by
  cases x with
  | obj C fs =>
    unfold OV at h ⊢
    obtain ⟨p, CA, dx, vfs, B, e1, e2, e0, e3, e4, e5⟩ := h
    exact ⟨p, CA, dx, vfs, B, e1, e2, e0, e3, OFs.sub e e4, e5⟩
  | ols os =>
    unfold OV at h ⊢
    obtain ⟨p, vs, B, e1, e2, e3, e4, e5⟩ := h
    exact ⟨p, vs, B, e1, e2, e3, e4.sub e, e5⟩
  | _ => (unfold OV at h ⊢; exact OF.sub e h)
section
variable {K : PySem.W.Frag} {F Hk H : Hp} {bp : List (Nat × Addr)} {σ : L2.St} {ρ : Env}
theorem SL.hole {ow : Nat → List Addr} (S : SL K F Hk H ow σ ρ) {i : Nat} (y : Option V) : SL K F Hk H (put ow i []) (σ.set i y) (ρ.set i none) := by
  refine ⟨fun j x h => ?_, fun j a h => ?_, fun j h => ?_, fun j k a hjk h => ?_⟩
  · rcases set_get h with ⟨_, e⟩ | ⟨ne, e⟩
    · cases e
    · obtain ⟨v, e1, o⟩ := S.s j x e
      refine ⟨v, by rw [List.getElem?_set_ne (Ne.symm ne)]; exact e1, ?_⟩
      unfold put
      rw [if_neg ne]; exact o
  · unfold put at h
    split at h
    · cases h
    · exact S.f j a h
  · unfold put at h
    split at h
    · exact absurd rfl h
    · rw [List.length_set]; exact S.w j h
  · unfold put at h ⊢
    split at h
    · cases h
    · split
      · simp
      · exact S.d j k a hjk h
theorem RS.hold (S : RS K F Hk H bp σ ρ) {i : Nat} {a : Addr} (hi : i < ρ.length) (hb : ∀ q ∈ bp, q.1 ≠ i) : RS K F Hk H ((i, a) :: bp) (σ.set i (some (.ref a))) (ρ.set i none) := by
  obtain ⟨ow, s⟩ := S.ow
  refine ⟨by rw [List.length_set, List.length_set, S.len], S.ex, S.fr, S.frk, ⟨_, s.hole _⟩, fun q hq => ?_⟩
  rcases List.mem_cons.mp hq with rfl | hq
  · exact List.getElem?_set_self (by rw [S.len]; exact hi)
  · rw [List.getElem?_set_ne (Ne.symm (hb q hq))]; exact S.bor q hq
theorem RS.unhold (S : RS K F Hk H ((i, a) :: bp) σ ρ) (hb : ∀ q ∈ bp, q.1 ≠ i) : RS K F Hk H bp (σ.set i none) (ρ.set i none) := by
  obtain ⟨ow, s⟩ := S.ow
  refine ⟨by rw [List.length_set, List.length_set, S.len], S.ex, S.fr, S.frk, ⟨_, s.hole _⟩, fun q hq => ?_⟩
  rw [List.getElem?_set_ne (Ne.symm (hb q hq))]; exact S.bor q (List.mem_cons_of_mem _ hq)
theorem RS.less (S : RS K F Hk H (p :: bp) σ ρ) : RS K F Hk H bp σ ρ := ⟨S.len, S.ex, S.fr, S.frk, S.ow, fun q hq => S.bor q (List.mem_cons_of_mem _ hq)⟩
end
theorem RV.flat {K K' : PySem.W.Frag} {H H' : Hp} {x : MV} {v : V} (f : flatM x = true) (h : RV K H x v) : RV K' H' x v := by
  cases x <;> first | (simp [flatM] at f; done) | (unfold RV at h ⊢; exact h)
theorem XFs.flat {K K' : PySem.W.Frag} {H H' : Hp} : ∀ {xs : List (Str × MV)} {vs : List (Str × V)}, xs.all (fun p => flatM p.2) = true → XFs K H xs vs → XFs K' H' xs vs
  | [], _, _, h => h
  | (n, x) :: xs, vs, f, h => by
    obtain ⟨v, r, e1, e2, e3⟩ := h
    simp only [List.all_cons, Bool.and_eq_true] at f
    exact ⟨v, r, e1, e2.flat f.1, XFs.flat f.2 e3⟩
structure ExT (K : PySem.W.Frag) (mg : Str → Option Value) (y : Str) (x : Str) (b : Bool) : Prop where
  ex : ∃ C D, mg x = some (.ref C) ∧ mg y = some (.ref D) ∧ PySem.W.exmOne K (.ref C) (.ref D) = some b
def XIn (F : Hp) (e : MX) (d : Option Addr) : Prop := (e.fs = [] ∧ d = none) ∨ ∃ dx vfs, d = some dx ∧ F dx = some (.xd vfs) ∧ ∀ K H, XFs K H e.fs vfs
def cH (c : Ct) (i : Nat) (a : Addr) (e : MX) (d : Option Addr) : Ct := ⟨c.K, c.mg, fun _ _ _ _ => False, i :: c.bs, fun F bp => (∃ bq, bp = (i, a) :: bq ∧ c.J F bq) ∧ XIn F e d, fun F F1 bp x h => by
  obtain ⟨⟨bq, e1, e2⟩, h2⟩ := h
  refine ⟨⟨bq, e1, c.Jm _ _ _ x e2⟩, ?_⟩
  rcases h2 with h2 | ⟨dx, vfs, q1, q2, q3⟩
  · exact .inl h2
  · exact .inr ⟨dx, vfs, q1, x _ _ q2, q3⟩⟩
section
variable {X : Cx} {c : Ct} {y n : Str} {i : Nat} {body suite : List Stmt} {b₀ : Stmt} {np pos pos' : Pos} {tab : List (Str × Bool)} {mb : MS} {mh : MX → MS}
theorem lookup_mem : ∀ {tab : List (Str × Bool)} {x : Str} {b : Bool}, tab.lookup x = some b → (x, b) ∈ tab
  | [], _, _, h => by simp at h
  | (z, k) :: tab, x, b, h => by
    rw [List.lookup_cons] at h
    by_cases e : x = z
    · subst e
      simp at h
      subst h
      exact List.mem_cons_self ..
    · have : (x == z) = false := by simpa using e
      rw [this] at h
      exact List.mem_cons_of_mem _ (lookup_mem h)
end
end Tm
set_option Elab.async false
set_option linter.all false
set_option maxRecDepth 100000
set_option maxHeartbeats 2000000
namespace Tm
open PySem L2 PySem.Spec PyProof.Rows
open Evl (Ex ex_rd ex_l ex_t)
def mRaise1 (x f : Str) (a : ME) : MS := fun ρ => (a ρ).bind fun y ρ1 => .exc ⟨x, [(f, y)]⟩ ρ1
def mRaise2 (x f g : Str) (a b : ME) : MS := fun ρ => (a ρ).bind fun y ρ1 => (b ρ1).bind fun z ρ2 => .exc ⟨x, [(g, z), (f, y)]⟩ ρ2
structure Cl0 (K : PySem.W.Frag) (mg : Str → Option Value) (x : Str) : Prop where
  ex : ∃ C, mg x = some (.ref C) ∧ PySem.W.excIn K C PySem.HandSPX.veTail "ValueError.__new__" = true ∧ PySem.W.keepIn K (.ref C) = true ∧ PySem.W.subIn K (.ref C) (.type "BaseException") = some true ∧ PySem.W.typeIn K (.ref C) = some (.type "type")
structure Cl1 (P : Program) (w : World) (K : PySem.W.Frag) (mg : Str → Option Value) (base : Heap) (x f : Str) : Prop where
  ex : ∃ C fI fd ps, OwX K mg x C fI ∧ PySem.W.findIn K (.ref C) f = some none ∧ FnOk P w K mg base (L2N.CX P w) 2 fI fd ps (spI1 K f) ∧ L2.Binds K fd ps []
structure Cl2 (P : Program) (w : World) (K : PySem.W.Frag) (mg : Str → Option Value) (base : Heap) (x f g : Str) : Prop where
  ex : ∃ C fI fd ps, OwX K mg x C fI ∧ PySem.W.findIn K (.ref C) f = some none ∧ PySem.W.findIn K (.ref C) g = some none ∧ FnOk P w K mg base (L2N.CX P w) 2 fI fd ps (spI2 K f g) ∧ L2.Binds K fd ps []
section
variable {X : Cx} {c : Ct} {x f g m : Str} {k j : Nat}
theorem ms_raise1 {e : Expr} {a : ME} {p p2 pos : Pos} (Z : Cl1 X.prog X.w X.K X.mg X.base x f) (hc : X.calm = true) (hr : Room k X.A) (hk : 3 ≤ k) (tk : L2N.Takes X c.W) (hg : Gl X x) (he : PE X e (rdE c a)) (hmg : c.mg = X.mg := by rfl)
    (hdb : (x == ("__debug__" : Str)) = false := by decide) (hst : starEach [e] X.env = (false, eval e X.env) :: starEach [] X.env := by rfl) (hpl : (backTo p2 (starEach [] X.env)).any (·.1) = false := by rfl) :
    PS X (.Raise (some (.Call (.Name x p) [e] [] p2)) none pos) (rdS c (mRaise1 x f a)) := by
  obtain ⟨C, fI, fd, ps, O, h2, h3, h4⟩ := Z.ex
  refine PSw (L2N.ps_raise hc tk (pmk1 (W := c.W) O h2 h3 (hr.mono hk) h4 tk hg (ma_cons he ma_nil hst) (fun σ H Q Q' q w => rdAw q w) hdb hst hpl)) fun D σ H ⟨F, Hk, bp, ρ, S, h⟩ => ?_
  have h : okS c F Hk bp D ((a ρ).bind fun y ρ1 => .exc ⟨x, [(f, y)]⟩ ρ1) := h
  refine ⟨F, Hk, bp, ρ, S, ?_⟩
  show okA c F Hk bp σ _ ((a ρ).bind fun y ρ1 => (mNil ρ1).bind fun xs ρ2 => .ok (y :: xs, ρ2))
  cases ea : a ρ with
  | stuck => rw [ea] at h; exact h
  | exc e ρ' => rw [ea] at h; exact fun Hk' H' cls d => h Hk' H' σ cls d
  | ok q =>
    obtain ⟨y, ρ1⟩ := q
    rw [ea] at h
    intro Hk1 H1 vs x1 S1 r1
    obtain ⟨v, us, rfl, r2, r3⟩ := RVs.cons.mp r1
    cases RVs.nil.mp r3
    refine ⟨v, rfl, fun d hd => ?_⟩
    have xn := Ex.new (o := HO.xd [(f, v)]) (S1.ex.back hd)
    exact h _ _ _ _ _ (x1.trans xn) (S1.new hd) ⟨C, by rw [hmg]; exact O.m, rfl, .inr ⟨d, _, rfl, upd_same, v, [], rfl, r2.mono xn, rfl⟩⟩
theorem ms_raise2 {e e2 : Expr} {a b : ME} {p p2 pos : Pos} (Z : Cl2 X.prog X.w X.K X.mg X.base x f g) (hc : X.calm = true) (hr : Room k X.A) (hk : 3 ≤ k) (tk : L2N.Takes X c.W) (hg : Gl X x) (he : PE X e (rdE c a)) (he2 : PE X e2 (rdE c b)) (hmg : c.mg = X.mg := by rfl)
    (hdb : (x == ("__debug__" : Str)) = false := by decide) (hst : starEach [e, e2] X.env = (false, eval e X.env) :: starEach [e2] X.env := by rfl) (hst2 : starEach [e2] X.env = (false, eval e2 X.env) :: starEach [] X.env := by rfl) (hpl : (backTo p2 (starEach [e2] X.env)).any (·.1) = false := by rfl) :
    PS X (.Raise (some (.Call (.Name x p) [e, e2] [] p2)) none pos) (rdS c (mRaise2 x f g a b)) := by
  obtain ⟨C, fI, fd, ps, O, h2, h22, h3, h4⟩ := Z.ex
  refine PSw (L2N.ps_raise hc tk (pmk2 (W := c.W) O h2 h22 h3 (hr.mono hk) h4 tk hg (ma_cons he (ma_cons he2 ma_nil hst2) hst) (fun σ H Q Q' q w => rdAw q w) hdb hst hpl)) fun D σ H ⟨F, Hk, bp, ρ, S, h⟩ => ?_
  have h : okS c F Hk bp D ((a ρ).bind fun y ρ1 => (b ρ1).bind fun z ρ2 => .exc ⟨x, [(g, z), (f, y)]⟩ ρ2) := h
  refine ⟨F, Hk, bp, ρ, S, ?_⟩
  show okA c F Hk bp σ _ ((a ρ).bind fun y ρ1 => ((b ρ1).bind fun z ρ2 => (mNil ρ2).bind fun xs ρ3 => .ok (z :: xs, ρ3)).bind fun xs ρ3 => .ok (y :: xs, ρ3))
  cases ea : a ρ with
  | stuck => rw [ea] at h; exact h
  | exc e ρ' => rw [ea] at h; exact fun Hk' H' cls d => h Hk' H' σ cls d
  | ok q =>
    obtain ⟨y, ρ1⟩ := q
    rw [ea] at h
    have h : okS c F Hk bp D ((b ρ1).bind fun z ρ2 => .exc ⟨x, [(g, z), (f, y)]⟩ ρ2) := h
    show okA c F Hk bp σ _ (((b ρ1).bind fun z ρ2 => (mNil ρ2).bind fun xs ρ3 => .ok (z :: xs, ρ3)).bind fun xs ρ3 => .ok (y :: xs, ρ3))
    cases eb : b ρ1 with
    | stuck => rw [eb] at h; exact h
    | exc e ρ' => rw [eb] at h; exact fun Hk' H' cls d => h Hk' H' σ cls d
    | ok q =>
      obtain ⟨z, ρ2⟩ := q
      rw [eb] at h
      intro Hk1 H1 vs x1 S1 r1
      obtain ⟨v, us, rfl, r2, r3⟩ := RVs.cons.mp r1
      obtain ⟨u, us, rfl, r4, r5⟩ := RVs.cons.mp r3
      cases RVs.nil.mp r5
      refine ⟨v, u, rfl, fun d hd => ?_⟩
      have xn := Ex.new (o := HO.xd [(g, u), (f, v)]) (S1.ex.back hd)
      exact h _ _ _ _ _ (x1.trans xn) (S1.new hd) ⟨C, by rw [hmg]; exact O.m, rfl, .inr ⟨d, _, rfl, upd_same, u, _, rfl, r4.mono xn, v, [], rfl, r2.mono xn, rfl⟩⟩
end
section
variable {prog : Program} {w : World} {A : Around} {E : Value → Shared → Prop} {s : Shared} {K : PySem.W.Frag} {x D : Addr} {ox : Obj} {od : Option Obj}
theorem findObj_any {C : Addr} {name : Str} {a g : Value} (hc : (PySem.W.clsIn K C).isSome = true) (ha : PySem.W.findIn K (.ref C) name = some (some a)) (hg : PySem.W.specialIn K a "__get__" = some (some g)) (ht : PySem.W.takesIn K a = some true) : PySem.W.findObj K C od name = some (.bind g a) := by
  obtain ⟨cd, hc⟩ := Option.isSome_iff_exists.mp hc
  unfold PySem.W.findObj
  rw [hc, Option.bind_some, ha, Option.bind_some]
  simp [hg, ht]
open PySem.W PySem.Calls in
theorem class_any {Q : Option Value → Shared → Prop} (c : ExcC K D) (X : K.In s.heap) (I : InstAt s.heap x ox D od) (h : Q (some (.ref D)) { s with toks := s.toks + 1 }) : wpAny (model prog w) A (getAttr? (.ref x) "__class__") Q E s := by
  have hf : findObj K D od "__class__" = some (.bind (.builtin "getset_descriptor.__get__") (.builtin "object.__class__")) := findObj_any (by obtain ⟨cd, hc, _⟩ := any_some c.hd; rw [hc]; rfl) c.ha c.hn c.ht
  obtain ⟨hp, g, d, t, os⟩ := s
  have L0 := I.type (M := model prog w)
  have L1 := looks_findIn (M := model prog w) X c.hg
  have L2 := looks_findIn (M := model prog w) X c.hk
  have L3 := looks_find (M := model prog w) X I hf
  have sub : Looks (model prog w) hp (isInstance (.ref x) (.type "BaseException")) true := L0.andThen (looks_subIn X c.hs)
  have z0 : (false && onTheHeap (Value.builtin "BaseException.__getattribute__")) = false := rfl
  have z2 : (Value.builtin "BaseException.__getattribute__" == Value.builtin "object.__getattribute__") = false := by decide +kernel
  have z1 : (onTheHeap (Value.ref D) && Value.builtin "BaseException.__getattribute__" == Value.builtin "object.__getattribute__") = false := by rw [z2]; rfl
  unfold getAttr? getAttrBy? getAttrBy
  refine wpAny_bind (wpAny_mkText (wpAny_bind (wpAny_attempt (wpAny_holding (wpAny_bind (L0.at (wpAny_bind (L1.at ?_))))))))
  show wpAny _ _ (if (onTheHeap (Value.ref D) && Value.builtin "BaseException.__getattribute__" == Value.builtin "object.__getattribute__") = true then _ else _) _ _ _
  rw [z1, if_neg Bool.false_ne_true]
  unfold getAttrByItsOwn hookBefore
  refine wpAny_bind ?_
  rw [if_pos (show onTheHeap (Value.ref D) = true from rfl)]
  refine L2.at ?_
  refine wpAny_bind (wpAny_attempt (wpAny_holding ?_))
  unfold callGetattribute
  rw [z0, if_neg Bool.false_ne_true]
  unfold boundAndCalled
  rw [PySem.F.excAttr_ValueError.ga.bind (.ref x)]
  refine wpAny_bind (wpAny_pure ?_)
  show wpAny _ _ (call (.builtin "BaseException.__getattribute__") [.ref x, .str "__class__" t]) _ _ _
  refine wpAny_call (codeAny_call_builtin PySem.F.excAttr_ValueError.ga.plain PySem.F.entry_bexc_ga ?_)
  refine @check_slot (model prog w) _ _ ⟨hp, g, d, t + 1, os⟩ "BaseException.__getattribute__" "BaseException" "__getattribute__" (.ref x) [.str "__class__" t] [] _ (by decide +kernel) (by decide +kernel) sub (PySem.F.args_bexc_ga (.ref x) (.str "__class__" t)) ?_
  unfold Builtin.«object.__getattribute__»
  refine wpAny_bind (wpAny_of_eq (a := ((Value.ref x : Value), [Value.str "__class__" t])) (by first | rfl | (simp only [slotArgs]; rfl)) ?_)
  refine wpAny_bind (wpAny_pure (wpAny_bind (L0.at (wpAny_bind (L3.at ?_)))))
  show wpAny _ _ (holding [Value.builtin "object.__class__"] (call (.builtin "getset_descriptor.__get__") [.builtin "object.__class__", .ref x, .ref D]) >>= ret) _ _ _
  refine wpAny_bind (wpAny_holding (wpAny_call (class_get (s := ⟨hp, g, d, t + 1, os⟩) (ox := ox) (od := od) X I c.hm ?_)))
  refine wpAny_pure ?_
  show wpAny _ _ (handedOut (.ref D)) _ _ _
  rw [handedOut_of (v := .ref D) rfl]
  first
    | exact wpAny_pure (wpAny_pure h)
    | exact wpAny_pure h
    | exact wpAny_pure (wpAny_bind (wpAny_pure (wpAny_pure h)))
open PySem.W PySem.Calls in
theorem kitx_any (c : ExcC K D) : KitX K (.ref x) (.ref D) (fun h => InstAt h x ox D od) where
  ty := fun _ _ _ I => I.type
  it := fun _ _ X _ => by
    obtain ⟨cdD, hcD, _⟩ := any_some c.hd
    unfold clsIn at hcD
    split at hcD
    · rename_i c' d' cd' sl' ho
      intro A' Q' E' s' k q
      unfold isType loadHead
      exact wpAny_bind (wpAny_loadPart (k _ _ (X _ _ ho)) (wpAny_pure q))
    · cases hcD
  ne := fun h tp dd its n sl X htp => by
    obtain ⟨cdD, hcD, _⟩ := any_some c.hd
    refine Bool.eq_false_iff.mpr fun q => ?_
    have e : D = tp := Value.ref.inj (beq_iff_eq.mp q)
    subst e
    unfold clsIn at hcD
    split at hcD
    · rename_i c' d' cd' sl' ho
      have z := (X _ _ ho).symm.trans htp
      cases z
    · cases hcD
  ca := fun X I k => class_any c X I k
end
theorem XFs.look {K : PySem.W.Frag} {H : Hp} {f : Str} {x : MV} : ∀ {xs : List (Str × MV)} {vs : List (Str × V)}, XFs K H xs vs → xs.lookup f = some x → ∃ v, vs.lookup f = some v ∧ RV K H x v
  | [], _, _, h => by simp at h
  | (n, y) :: xs, vs, r, h => by
    obtain ⟨v, rr, e1, e2, e3⟩ := r
    subst e1
    rw [List.lookup_cons] at h ⊢
    cases eq : f == n with
    | true => rw [eq] at h; cases h; exact ⟨v, rfl, e2⟩
    | false => rw [eq] at h; exact XFs.look e3 h
theorem fa_nil {α : Type} {P : α → Prop} : ∀ p ∈ ([] : List α), P p := fun _ h => nomatch h
theorem fa_cons {α : Type} {P : α → Prop} {x : α} {l : List α} (h : P x) (t : ∀ p ∈ l, P p) : ∀ p ∈ x :: l, P p := fun p hp => by
  rcases List.mem_cons.mp hp with rfl | hp
  · exact h
  · exact t p hp
def xcB (K : PySem.W.Frag) (C : Addr) (fs : List Str) : Bool := xfB K C && decide (PySem.W.findIn K (.ref C) "__class__" = some (some (.builtin "object.__class__"))) && decide (PySem.W.specialIn K (.builtin "object.__class__") "__get__" = some (some (.builtin "getset_descriptor.__get__"))) && decide (PySem.W.takesIn K (.builtin "object.__class__") = some true) && decide (PySem.W.mroIn K C (.type "object") = some true) && fs.all (fun f => decide (PySem.W.findIn K (.ref C) f = some none))
structure XcF (K : PySem.W.Frag) (mg : Str → Option Value) (fs : List Str) (x : Str) : Prop where
  ex : ∃ C, mg x = some (.ref C) ∧ xcB K C fs = true
structure KiT (K : PySem.W.Frag) (mg : Str → Option Value) (y x : Str) (b : Bool) : Prop where
  ex : ∃ C D, mg x = some (.ref C) ∧ mg y = some (.ref D) ∧ PySem.W.kitOne K (.ref C) (.ref D) = some b
structure XcG (K : PySem.W.Frag) (C : Addr) (fs : List Str) : Prop where
  xf : XfC K C
  xc : ExcC K C
  no : ∀ f ∈ fs, PySem.W.findIn K (.ref C) f = some none
theorem xcB_ok {K : PySem.W.Frag} {C : Addr} {fs : List Str} (h : xcB K C fs = true) : XcG K C fs := by
  unfold xcB at h
  simp only [Bool.and_eq_true, decide_eq_true_eq, List.all_eq_true] at h
  obtain ⟨⟨⟨⟨⟨h1, h2⟩, h3⟩, h4⟩, h5⟩, h6⟩ := h
  have T := xfB_ok h1
  exact ⟨T, ⟨T.ga, T.gg, T.exC, T.hdC, h2, h3, h4, h5⟩, h6⟩
def inCls (s : Stmt) (j : Nat) : Stmt := match s with
  | .ClassDef _ _ _ b _ _ _ _ _ _ _ => b.getD j (.Pass ⟨0, 0, 0, 0⟩)
  | _ => .Pass ⟨0, 0, 0, 0⟩
theorem owX_mk {K : PySem.W.Frag} {mg : Str → Option Value} {x : Str} {C fI : Addr} {nm q : Str} {N : Addr} {bs bm : List Value} {sn : List Str} {sub : List Value} {ab : Bool} {col : Option Bool} {dd : Option Addr} {k0 k1 k2 k3 k5 : Option Value}
    (m : mg x = some (.ref C)) (l : K.lookup C = some (excClassObj nm q C N bs bm true sn sub ab col dd k0 k1 k2 k3 k5 "ValueError.__new__")) (r : PySem.HandSPX.refsVE bm = true) (sa : PySem.W.findIn K (.ref C) "__setattr__" = some (some (.builtin "object.__setattr__")))
    (eC : PySem.W.subIn K (.ref C) (.type "BaseException") = some true) (tC : PySem.W.typeIn K (.ref C) = some (.type "type")) (kC : PySem.W.keepIn K (.ref C) = true) (iC : PySem.W.findIn K (.ref C) "__init__" = some (some (.ref fI))) (tI : PySem.W.typeIn K (.ref fI) = some (.type "function")) : OwX K mg x C fI :=
  ⟨⟨⟨nm, q, N, bs, bm, sn, sub, ab, col, dd, k0, k1, k2, k3, k5, l, r⟩, sa, eC, tC, kC⟩, m, iC, tI⟩
end Tm
set_option Elab.async false
set_option linter.all false
set_option maxRecDepth 100000
set_option maxHeartbeats 2000000
namespace Tm
open PySem L2
open Evl (Ex ex_rd ex_l ex_t)
section
variable {X : Cx} {c : Ct} {p pos apos cpos : Pos} {o e : Expr} {es : List Expr} {a : ME} {m : MA}
def smE (f : Str → List MV → Option MV) (z : Str) (ys : List MV) (ρ2 : Env) : Res (MV × Env) := match f z ys with | some w => .ok (w, ρ2) | none => .stuck
def mSm (f : Str → List MV → Option MV) (a : ME) (b : MA) : ME := fun ρ => (a ρ).bind fun x ρ1 => match x with
  | .str z => (b ρ1).bind (smE f z)
  | _ => .stuck
def SmS (K : PySem.W.Frag) (f : Str → List MV → Option MV) (r : V → List V → Hp → VK → Prop) : Prop := ∀ (z : Str) (ys : List MV) (w : MV) (us : List V) (Hk H : Hp) (Q : VK), f z ys = some w → Ex Hk H → RVs K Hk ys us → (∀ u, RV K Hk w u → Q u H) →
  (∀ q ob, H q = none → RV K (upd Hk q ob) w (.ref q) → Q (.ref q) (upd H q ob)) → r (.str z) us H Q
theorem rd_sm {f : Str → List MV → Option MV} {r : V → List V → Hp → VK → Prop} (s : SmS c.K f r) {σ : St} {H : Hp} {Q : VK} (h : rdE c (mSm f a m) σ H Q) : tBM c.K "str" r (rdE c a) (rdA c m) σ H Q := by
  obtain ⟨F, Hk, bp, ρ, S, h⟩ := h
  refine rdw (bE postE S h) fun v H1 ⟨Hk1, x, ρ1, x1, S1, r1, h1⟩ => ?_
  cases x with
  | str z =>
    rw [RV.str.mp r1]
    refine ⟨rfl, ?_⟩
    refine rdAw (bA postE S1 h1) fun us H2 ⟨Hk2, ys, ρ2, x2, S2, r2, h2⟩ => ?_
    have h2 : okE c F Hk2 bp σ Q (match f z ys with | some w => .ok (w, ρ2) | none => .stuck) := h2
    cases ef : f z ys with
    | none => rw [ef] at h2; exact h2.elim
    | some w =>
      rw [ef] at h2
      exact s z ys w us Hk2 H2 Q ef S2.1.ex r2 (fun u ru => h2 _ _ u (Ex.refl _) S2.1 ru) fun q ob hq ru => h2 _ _ _ (Ex.new (S2.1.ex.back hq)) (S2.1.new hq) ru
  | _ => exact h1.elim
theorem me_sm {f : Str → List MV → Option MV} {r : V → List V → Hp → VK → Prop} {id : String} {name : Str} (s : SmS c.K f r) (slot : Slot "str" name id) (hty : typeOf (.builtin id) = pure (.type "method_descriptor")) (hm : MtR X id r) (ho : PE X o (rdE c a)) (ha : PA X (e :: es) (rdA c m)) (hK : c.K = X.K := by rfl)
    (hbase : attributeBase o name X.env (eval o X.env) = eval o X.env := by rfl)
    (hfew : ((backTo cpos (starEach (e :: es) X.env)).all (fun x => !x.1) && (backToKw cpos (keywordEach [] X.env)).all (fun x => x.1.isSome)
      && decide ((e :: es).length + ([] : List Keyword).length + (if ([] : List Keyword).isEmpty then 0 else 1) < 30)) = true := by rfl)
    (hline : (apos.endLine == cpos.line) = true := by rfl) (hs : starEach (e :: es) X.env = (false, eval e X.env) :: starEach es X.env := by rfl) (hplain : (backTo cpos (starEach es X.env)).any (·.1) = false := by rfl) :
    PE X (.Call (.Attribute o name apos) (e :: es) [] cpos) (rdE c (mSm f a m)) :=
  PEw (pe_bm PySem.F.plainAttrs_str slot hty hm ho ha hbase hfew hline hs hplain) fun σ H Q h => by
    have := rd_sm s h
    rw [hK] at this
    exact this
end
def strsOf : List MV → Option (List Str)
  | [] => some []
  | .str z :: r => (match strsOf r with | some l => some (z :: l) | none => none)
  | _ :: _ => none
theorem strs_rv {K : PySem.W.Frag} {H : Hp} : ∀ {xs : List MV} {ss : List Str} {vs : List V}, strsOf xs = some ss → RVs K H xs vs → vs = ss.map V.str
  | [], ss, vs, h, r => by cases h; exact RVs.nil.mp r
  | .str z :: xs, ss, vs, h, r => by
    obtain ⟨v, us, rfl, r1, r2⟩ := RVs.cons.mp r
    unfold strsOf at h
    cases e : strsOf xs with
    | none => rw [e] at h; cases h
    | some l =>
      rw [e] at h
      cases h
      rw [RV.str.mp r1, strs_rv e r2]; rfl
  | .non :: _, _, _, h, _ => by cases h
  | .bl _ :: _, _, _, h, _ => by cases h
  | .int _ :: _, _, _, h, _ => by cases h
  | .tup _ :: _, _, _, h, _ => by cases h
  | .lst _ :: _, _, _, h, _ => by cases h
  | .own _ :: _, _, _, h, _ => by cases h
  | .raw _ :: _, _, _, h, _ => by cases h
  | .scr _ :: _, _, _, h, _ => by cases h
  | .fnc _ :: _, _, _, h, _ => by cases h
  | .obj _ _ :: _, _, _, h, _ => by cases h
  | .dct _ _ :: _, _, _, h, _ => by cases h
  | .dow _ _ :: _, _, _, h, _ => by cases h
  | .dot _ _ :: _, _, _, h, _ => by cases h
def joinM (z : Str) (ss : List Str) : Option MV := if decide ((ss.map (·.length)).sum + ss.length * z.length ≤ 16777216) then some (.str (Txt.join z ss)) else none
def smJoin : Str → List MV → Option MV
  | z, [.lst xs] => (strsOf xs).bind (joinM z)
  | z, [.tup xs] => (strsOf xs).bind (joinM z)
  | _, _ => none
theorem strs_map {K : PySem.W.Frag} {H : Hp} : ∀ (ss : List Str), RVs K H (ss.map MV.str) (ss.map V.str)
  | [] => RVs.nil.mpr rfl
  | s :: ss => RVs.cons.mpr ⟨_, _, rfl, RV.str.mpr rfl, strs_map ss⟩
theorem ss_join {K : PySem.W.Frag} : SmS K smJoin (fun x xs H Q => ∃ a p, ∃ ys : List Str, x = .str a ∧ xs = [.ref p] ∧ (SqL K H p (ys.map V.str) ∨ SqT K H p (ys.map V.str)) ∧ (ys.map (·.length)).sum + ys.length * a.length ≤ 16777216 ∧ Q (.str (Txt.join a ys)) H) := by
  intro z ys w us Hk H Q e ex r q qn
  have fin : ∀ ss, joinM z ss = some w → (ss.map (·.length)).sum + ss.length * z.length ≤ 16777216 ∧ w = .str (Txt.join z ss) := fun ss h => by
    unfold joinM at h
    split at h
    · rename_i hd
      exact ⟨of_decide_eq_true hd, by cases h; rfl⟩
    · cases h
  unfold smJoin at e
  split at e
  · rename_i xs
    obtain ⟨v, rfl, rv⟩ := rvs1 r
    obtain ⟨p, vs, rfl, h1, s1⟩ := RV.lst.mp rv
    cases es : strsOf xs with
    | none => rw [es] at e; cases e
    | some ss =>
      rw [es] at e
      obtain ⟨f1, rfl⟩ := fin ss e
      have := strs_rv es s1
      subst this
      exact ⟨z, p, ss, rfl, rfl, .inl (SqL.of (ex _ _ h1)), f1, q _ (RV.str.mpr rfl)⟩
  · rename_i xs
    obtain ⟨v, rfl, rv⟩ := rvs1 r
    obtain ⟨p, vs, rfl, h1, s1⟩ := RV.tup.mp rv
    cases es : strsOf xs with
    | none => rw [es] at e; cases e
    | some ss =>
      rw [es] at e
      obtain ⟨f1, rfl⟩ := fin ss e
      have := strs_rv es s1
      subst this
      exact ⟨z, p, ss, rfl, rfl, .inr (ex_t ex h1), f1, q _ (RV.str.mpr rfl)⟩
  · cases e
def smSplit : Str → List MV → Option MV
  | z, [.str b] => if (b.length == 0) = false ∧ z.length + 2 ≤ sizeLine then some (.lst ((Txt.split z b).map MV.str)) else none
  | _, _ => none
theorem ss_split {K : PySem.W.Frag} : SmS K smSplit (fun x xs H Q => ∃ a b, x = .str a ∧ xs = [.str b] ∧ (b.length == 0) = false ∧ a.length + 2 ≤ sizeLine ∧ rNewStrs (Txt.split a b) H Q) := by
  intro z ys w us Hk H Q e ex r q qn
  unfold smSplit at e
  split at e
  · rename_i b
    split at e
    · rename_i h
      cases e
      obtain ⟨v, rfl, rv⟩ := rvs1 r
      rw [RV.str.mp rv]
      exact ⟨z, b, rfl, rfl, h.1, h.2, fun p hp => qn p _ hp (RV.lst.mpr ⟨p, _, rfl, upd_same, strs_map _⟩)⟩
    · cases e
  · cases e
end Tm
set_option Elab.async false
set_option linter.all false
set_option maxRecDepth 100000
set_option maxHeartbeats 2000000
namespace Tm
open PySem L2
open Evl (Ex ex_rd ex_l ex_t)
inductive BA where
  | v (x : MV) | b (i : Nat)
abbrev MB := Env → Res (List BA × Env)
def idxB : List BA → List Nat
  | [] => []
  | .v _ :: r => idxB r
  | .b i :: r => i :: idxB r
def MV.held : MV → Bool
  | .own _ => true
  | .obj _ _ => true
  | .dow _ _ => true
  | .dct _ _ => true
  | _ => false
def fill : List BA → Env → Option (List MV)
  | [], _ => some []
  | .v x :: r, ρ => (match fill r ρ with | some xs => some (x :: xs) | none => none)
  | .b i :: r, ρ => (match ρ[i]?, fill r ρ with | some (some x), some xs => if x.held then some (x :: xs) else none | _, _ => none)
def back (ρ : Env) : List Nat → Env → Env
  | [], _ => ρ
  | i :: is, os => back (ρ.set i (os.head?).join) is os.tail
def BVs (K : PySem.W.Frag) (Hk : Hp) (σ : St) : List BA → List V → Prop
  | [], vs => vs = []
  | .v x :: r, vs => ∃ v us, vs = v :: us ∧ RV K Hk x v ∧ BVs K Hk σ r us
  | .b i :: r, vs => ∃ v us, vs = v :: us ∧ σ[i]? = some (some v) ∧ BVs K Hk σ r us
theorem BVs.mono {K : PySem.W.Frag} {Hk Hk' : Hp} {σ : St} (e : Ex Hk Hk') : ∀ {xs : List BA} {vs : List V}, BVs K Hk σ xs vs → BVs K Hk' σ xs vs
  | [], _, h => h
  | .v x :: r, vs, ⟨v, us, e1, e2, e3⟩ => ⟨v, us, e1, RV.mono e _ _ e2, BVs.mono e e3⟩
  | .b i :: r, vs, ⟨v, us, e1, e2, e3⟩ => ⟨v, us, e1, e2, BVs.mono e e3⟩
theorem BVs.length {K : PySem.W.Frag} {Hk : Hp} {σ : St} : ∀ {xs : List BA} {vs : List V}, BVs K Hk σ xs vs → vs.length = xs.length
  | [], _, h => by rw [show _ = [] from h]; rfl
  | .v x :: r, vs, ⟨v, us, e1, e2, e3⟩ => by rw [e1, List.length_cons, List.length_cons, e3.length]
  | .b i :: r, vs, ⟨v, us, e1, e2, e3⟩ => by rw [e1, List.length_cons, List.length_cons, e3.length]
def okBA (c : Ct) (F Hk : Hp) (bp : List (Nat × Addr)) (σ : St) (Q : List V → Hp → Prop) : Res (List BA × Env) → Prop
  | .ok (xs, ρ') => ∀ Hk' H' vs, Ex Hk Hk' → RS c.K F Hk' H' bp σ ρ' → BVs c.K Hk' σ xs vs → Q vs H'
  | .exc e ρ' => Wish c F Hk bp σ e ρ'
  | .stuck => False
theorem okBA.mono {c : Ct} {F Hk Hk' : Hp} {bp : List (Nat × Addr)} {σ : St} {Q : List V → Hp → Prop} {r : Res (List BA × Env)} (x : Ex Hk Hk') (h : okBA c F Hk bp σ Q r) : okBA c F Hk' bp σ Q r := by
  cases r with
  | ok a => exact fun Hk2 H2 v x2 => h Hk2 H2 v (x.trans x2)
  | exc e ρ => exact Wish.mono x h
  | stuck => exact h
end Tm
set_option Elab.async false
set_option linter.all false
set_option maxRecDepth 100000
set_option maxHeartbeats 2000000
namespace Tm
open PySem L2
open Evl (Ex ex_rd ex_l ex_t)
def cbE (f : MF) (args : List BA) (ρ : Env) : Res (MV × Env) := match fill args ρ with
  | some xs => (match f xs with | .ok (v, os) => .ok (v, back ρ (idxB args) os) | .exc e os => .exc e (back ρ (idxB args) os) | .stuck => .stuck)
  | none => .stuck
end Tm
set_option Elab.async false
set_option linter.all false
set_option maxRecDepth 100000
set_option maxHeartbeats 2000000
namespace Tm
open PySem L2
open Evl (Ex ex_rd ex_l ex_t)
def putM (f : Str) (v : MV) : List (Str × MV) → List (Str × MV)
  | [] => [(f, v)]
  | (g, x) :: r => if g = f then (g, v) :: r else (g, x) :: putM f v r
theorem look_eq {α : Type} {f g : Str} {x : α} {r : List (Str × α)} : ((g, x) :: r).lookup f = if g = f then some x else r.lookup f := by
  rw [List.lookup_cons]
  by_cases e : g = f
  · subst e; simp
  · rw [if_neg e]
    have : (f == g) = false := by simpa using fun z => e z.symm
    rw [this]
section
variable {K : PySem.W.Frag} {Hk H : Hp}
theorem OFs.fresh : ∀ {fs : List (Str × MV)} {vfs : List (Str × V)} {B : List Addr} {f : Str}, OFs K Hk H fs vfs B → fs.lookup f = none → vfs.lookup f = none ∧
    ∀ (Hk' H' : Hp) (x' : MV) (v' : V) (A1' : List Addr), Ex Hk Hk' → (∀ a ∈ B, ∀ o, H a = some o → H' a = some o) → OF K Hk' H' x' v' A1' → OFs K Hk' H' (putM f x' fs) (putF f v' vfs) (B ++ A1')
  | [], vfs, B, f, ⟨e1, e2⟩, _ => by
    subst e1 e2
    exact ⟨rfl, fun Hk' H' x' v' A1' ex k o' => ⟨v', [], A1', [], rfl, by simp, o', rfl, rfl⟩⟩
  | (n, y) :: fs, vfs, B, f, ⟨v, r, C, D, e1, e2, o1, o2⟩, h => by
    subst e1 e2
    rw [look_eq] at h
    by_cases e : n = f
    · rw [if_pos e] at h; cases h
    · rw [if_neg e] at h
      obtain ⟨g1, g4⟩ := OFs.fresh o2 h
      refine ⟨by rw [look_eq, if_neg e]; exact g1, fun Hk' H' x' v' A1' ex k o' => ?_⟩
      unfold putM putF
      rw [if_neg e, if_neg e]
      exact ⟨v, _, C, D ++ A1', rfl, by simp, o1.move ex fun a ha => k a (by simp [ha]), g4 Hk' H' x' v' A1' ex (fun a ha => k a (by simp [ha])) o'⟩
theorem OFs.len : ∀ {fs : List (Str × MV)} {vfs : List (Str × V)} {B : List Addr}, OFs K Hk H fs vfs B → vfs.length = fs.length
  | [], vfs, B, ⟨e1, _⟩ => by rw [e1]; rfl
  | _ :: fs, vfs, B, ⟨v, r, C, D, e1, e2, o1, o2⟩ => by rw [e1, List.length_cons, List.length_cons, o2.len]
theorem OV.obj {C : Str} {fs : List (Str × MV)} {v : V} {A : List Addr} : OV K Hk H (.obj C fs) v A ↔ ∃ p CA dx vfs B, v = .ref p ∧ A = p :: B ∧ PySem.W.nsIn K mainGlobals C = some (some (.ref CA)) ∧ H p = some (.ins CA dx vfs) ∧ OFs K Hk H fs vfs B ∧ (p :: B).Nodup := by
  unfold OV; rfl
theorem OF.own {xs : List MV} {v : V} {A : List Addr} : OF K Hk H (.own xs) v A ↔ ∃ p vs, v = .ref p ∧ A = [p] ∧ H p = some (.lst vs) ∧ RVs K Hk xs vs := by
  unfold OF; rfl
end
structure ObC (K : PySem.W.Frag) (C : Str) (fs : List Str) : Prop where
  ex : ∀ CA, PySem.W.nsIn K mainGlobals C = some (some (.ref CA)) → Cls K CA ∧ ∀ f ∈ fs, NoAttr K CA f
end Tm
set_option Elab.async false
set_option linter.all false
set_option maxRecDepth 100000
set_option maxHeartbeats 2000000
namespace Tm
open PySem L2
open Evl (Ex ex_rd ex_l ex_t)
structure ObM (P : Program) (w : World) (K : PySem.W.Frag) (mg : Str → Option Value) (base : Heap) (C m : Str) (k : Nat) (ps : List Str) (bs : List Nat) (f : MF) : Prop where
  ex : ∃ CA g fd, PySem.W.nsIn K mainGlobals C = some (some (.ref CA)) ∧ Cls K CA ∧ Meth K CA m g ∧ FnOk P w K mg base (L2N.CX P w) k g fd ps (spF K mg ps.length bs f) ∧ Binds K fd ps []
structure ObN (P : Program) (w : World) (K : PySem.W.Frag) (mg : Str → Option Value) (base : Heap) (C : Str) (k : Nat) (f : MF) : Prop where
  ex : ∃ CA g fd ps, PySem.W.nsIn K mainGlobals C = some (some (.ref CA)) ∧ mg C = some (.ref CA) ∧ Mk K CA g ∧ FnOk P w K mg base (L2N.CX P w) k g fd ps (spF K mg 1 [0] f) ∧ Binds K fd ps []
end Tm
set_option Elab.async false
set_option linter.all false
set_option maxRecDepth 100000
set_option maxHeartbeats 2000000
namespace Tm
open PySem L2
open Evl (Ex ex_rd ex_l ex_t)
def FnA (K : PySem.W.Frag) (a : Addr) : Prop := ∃ o, K.lookup a = some o ∧ o.cls = .type "function"
theorem FnA.ty {X : Cx} {pins : List (Addr × Obj)} {σ : St} {H : Hp} {s : Shared} {a : Addr} (I : Inv X pins σ H s) (h : FnA X.K a) : s.TypeIs (.ref a) "function" := by
  obtain ⟨o, h1, h2⟩ := h
  exact ⟨o, I.kIn _ _ h1, h2⟩
structure FnI (K : PySem.W.Frag) (N : List Str) : Prop where
  fn : ∀ x ∈ N, ∀ a, PySem.W.nsIn K mainGlobals x = some (some (.ref a)) → FnA K a
  inj : ∀ x ∈ N, ∀ y ∈ N, ∀ a, PySem.W.nsIn K mainGlobals x = some (some (.ref a)) → PySem.W.nsIn K mainGlobals y = some (some (.ref a)) → x = y
structure FnT (P : Program) (w : World) (K : PySem.W.Frag) (mg : Str → Option Value) (base : Heap) (T : List (Str × MF)) : Prop where
  ex : ∀ x f, T.lookup x = some f → ∀ a, PySem.W.nsIn K mainGlobals x = some (some (.ref a)) → ∃ fd ps, FnOk P w K mg base (L2N.CX P w) 2 a fd ps (spF K mg 1 [] f) ∧ PySem.W.keepIn K (.ref a) = true ∧ Binds K fd ps []
end Tm
set_option Elab.async false
set_option linter.all false
set_option maxRecDepth 100000
set_option maxHeartbeats 2000000
namespace Tm
open PySem L2
open Evl (Ex ex_rd ex_l ex_t)
section
variable {X : Cx} {c : Ct} {C x f : Str} {fl : List Str} {i : Nat} {p p2 pos apos cpos : Pos} {e : Expr} {es : List Expr}
structure FnG (K : PySem.W.Frag) (mg : Str → Option Value) (x : Str) : Prop where
  ex : ∃ a, mg x = some (.ref a) ∧ PySem.W.nsIn K mainGlobals x = some (some (.ref a))
end
end Tm
set_option Elab.async false
set_option linter.all false
set_option maxRecDepth 100000
set_option maxHeartbeats 2000000
namespace Tm
open PySem L2
open Evl (Ex ex_rd ex_l ex_t)
structure ObX (P : Program) (w : World) (K : PySem.W.Frag) (mg : Str → Option Value) (base : Heap) (C m : Str) (k : Nat) (ps : List Str) (sp : Sp) : Prop where
  ex : ∃ CA g fd, PySem.W.nsIn K mainGlobals C = some (some (.ref CA)) ∧ Cls K CA ∧ Meth K CA m g ∧ FnOk P w K mg base (L2N.CX P w) k g fd ps sp ∧ Binds K fd ps []
end Tm
set_option Elab.async false
set_option linter.all false
set_option maxRecDepth 100000
set_option maxHeartbeats 2000000
namespace Tm
open PySem L2
theorem nr {α : Sort _} {a b : α} (h : a = b) : a = b := h
section
variable {α β : Type} {a b : ME} {ρ ρ1 : Env} {r : Option MV} {x y z : MV}
@[simp] theorem bind_ok {x : α} {f : α → Env → Res (β × Env)} : (Res.ok (x, ρ)).bind f = f x ρ := nr rfl
@[simp] theorem bind_exc {e : MX} {f : α → Env → Res (β × Env)} : (Res.exc e ρ : Res (α × Env)).bind f = .exc e ρ := nr rfl
@[simp] theorem bind_stuck {f : α → Env → Res (β × Env)} : (Res.stuck : Res (α × Env)).bind f = .stuck := nr rfl
@[simp] theorem b0_ok {x : α} {f : α → Env → Res (β × Env)} : (Res.ok (x, ρ)).b0 f = f x ρ := nr rfl
@[simp] theorem mVar_ap {i : Nat} : mVar i (r :: ρ) = match (r :: ρ)[i]? with
  | some (some (.own xs)) => .ok (.lst xs, (r :: ρ).set i (some (.lst xs)))
  | some (some (.obj _ _)) => .stuck
  | some (some (.dow _ _)) => .stuck
  | some (some (.dot _ _)) => .stuck
  | some (some (.ols _)) => .stuck
  | some (some x) => .ok (x, (r :: ρ))
  | _ => .stuck := nr rfl
@[simp] theorem mC_ap  : mC x (r :: ρ) = .ok (x, (r :: ρ)) := nr rfl
@[simp] theorem mOp_ap {f : MV → MV → Option MV} : mOp f a b (r :: ρ) = (a (r :: ρ)).bind fun x ρ1 => (b ρ1).bind fun y ρ2 => match f x y with | some z => .ok (z, ρ2) | none => .stuck := nr rfl
@[simp] theorem mTest_ap  : mTest a (r :: ρ) = (a (r :: ρ)).bind fun x ρ1 => match x with | .bl b => .ok (b, ρ1) | _ => .stuck := nr rfl
@[simp] theorem mAndT_ap {a b : MT} : mAndT a b (r :: ρ) = (a (r :: ρ)).bind fun x ρ1 => if x then b ρ1 else .ok (false, ρ1) := nr rfl
@[simp] theorem mOrT_ap {a b : MT} : mOrT a b (r :: ρ) = (a (r :: ρ)).bind fun x ρ1 => if x then .ok (true, ρ1) else b ρ1 := nr rfl
@[simp] theorem mNotT_ap {a : MT} : mNotT a (r :: ρ) = (a (r :: ρ)).bind fun x ρ1 => .ok (!x, ρ1) := nr rfl
@[simp] theorem mBv_ap {t : MT} : mBv t (r :: ρ) = (t (r :: ρ)).bind fun x ρ1 => .ok (.bl x, ρ1) := nr rfl
@[simp] theorem mNil_ap  : mNil (r :: ρ) = .ok ([], (r :: ρ)) := nr rfl
@[simp] theorem mCons_ap {b : MA} : mCons a b (r :: ρ) = (a (r :: ρ)).bind fun x ρ1 => (b ρ1).bind fun xs ρ2 => .ok (x :: xs, ρ2) := nr rfl
@[simp] theorem mTup_ap {a : MA} : mTup a (r :: ρ) = (a (r :: ρ)).bind fun xs ρ1 => if szOk xs.length then .ok (.tup xs, ρ1) else .stuck := nr rfl
@[simp] theorem mLst_ap {a : MA} : mLst a (r :: ρ) = (a (r :: ρ)).bind fun xs ρ1 => if szOk xs.length then .ok (.lst xs, ρ1) else .stuck := nr rfl
@[simp] theorem mLstO_ap {a : MA} : mLstO a (r :: ρ) = (a (r :: ρ)).bind fun xs ρ1 => if szOk xs.length then .ok (.own xs, ρ1) else .stuck := nr rfl
@[simp] theorem gSet_ap {i : Nat} : gSet i x (r :: ρ) = if i < (r :: ρ).length then some ((r :: ρ).set i (some x)) else none := nr rfl
@[simp] theorem gsNil_ap  : gsNil [] (r :: ρ) = some (r :: ρ) := nr rfl
@[simp] theorem gsCons_ap {g : MG} {h : List MV → Env → Option Env} {xs : List MV} : gsCons g h (x :: xs) (r :: ρ) = match g x (r :: ρ) with | some ρ1 => h xs ρ1 | none => none := nr rfl
@[simp] theorem gTp_tup {n : Nat} {h : List MV → Env → Option Env} {xs : List MV} : gTp n h (.tup xs) ρ = if xs.length = n then h xs ρ else none := nr rfl
@[simp] theorem gTp_lst {n : Nat} {h : List MV → Env → Option Env} {xs : List MV} : gTp n h (.lst xs) ρ = if xs.length = n then h xs ρ else none := nr rfl
@[simp] theorem mAsg_ap {g : MG} : mAsg a g (r :: ρ) = (a (r :: ρ)).bind fun x ρ1 => match g x ρ1 with | some ρ2 => .ok (.nx, ρ2) | none => .stuck := nr rfl
@[simp] theorem mSetO_ap {i : Nat} : mSetO i a (r :: ρ) = (a (r :: ρ)).bind fun x ρ1 => if i < ρ1.length then .ok (.nx, ρ1.set i (some x)) else .stuck := nr rfl
@[simp] theorem mPass_ap  : mPass (r :: ρ) = .ok (.nx, (r :: ρ)) := nr rfl
@[simp] theorem mSeq_ap {a b : MS} : mSeq a b (r :: ρ) = (a (r :: ρ)).bind fun f ρ1 => match f with | .nx => b ρ1 | f => .ok (f, ρ1) := nr rfl
@[simp] theorem mIfS_ap {t : MT} {a b : MS} : mIfS t a b (r :: ρ) = (t (r :: ρ)).bind fun x ρ1 => if x then a ρ1 else b ρ1 := nr rfl
@[simp] theorem mRet_ap  : mRet a (r :: ρ) = (a (r :: ρ)).bind fun x ρ1 => .ok (.rt x, ρ1) := nr rfl
@[simp] theorem mDrop_ap  : mDrop a (r :: ρ) = (a (r :: ρ)).bind fun _ ρ1 => .ok (.nx, ρ1) := nr rfl
@[simp] theorem mMove_ap {i : Nat} : mMove i (r :: ρ) = match (r :: ρ)[i]? with
  | some (some (.obj _ _)) => .stuck
  | some (some x) => .ok (x, (r :: ρ).set i none)
  | _ => .stuck := nr rfl
@[simp] theorem mFz_ap  : mFz a (r :: ρ) = (a (r :: ρ)).bind fun x ρ1 => match fz x with | some y => .ok (y, ρ1) | none => .stuck := nr rfl
@[simp] theorem mCall_ap {f : MF} {a : MA} : mCall f a (r :: ρ) = (a (r :: ρ)).bind fun xs ρ1 => match f xs with
  | .ok (v, _) => .ok (v, ρ1)
  | .exc e _ => .exc e ρ1
  | .stuck => .stuck := nr rfl
@[simp] theorem mCall0_ap {f : MF} {a : MA} : mCall0 f a (r :: ρ) = (a (r :: ρ)).bind fun xs ρ1 => match f xs with
  | .ok (v, _) => .ok (v, ρ1)
  | _ => .stuck := nr rfl
@[simp] theorem mBlt_ap {f : List MV → Option MV} {a : MA} : mBlt f a (r :: ρ) = (a (r :: ρ)).bind fun xs ρ1 => match f xs with | some z => .ok (z, ρ1) | none => .stuck := nr rfl
def r1M (xs : List MV) (ρ1 : Env) : Res (List MV × Env) := match xs with
  | [.int j] => if inR j then .ok (rngM 0 1 j.toNat, ρ1) else .stuck
  | _ => .stuck
@[simp] theorem mR1_ap {a : MA} : mR1 a (r :: ρ) = (a (r :: ρ)).bind r1M := nr rfl
@[simp] theorem r1M_i {j : Int} (h : inR j = true) : r1M [.int j] ρ = .ok (rngM 0 1 j.toNat, ρ) := if_pos h
def lmM (f : List MV → List MV → Option (List MV × MV)) (i : Nat) (ys : List MV) (ρ1 : Env) : Res (MV × Env) := match ρ1[i]? with
  | some (some (.own xs)) => (match f xs ys with | some (zs, z) => .ok (z, ρ1.set i (some (.own zs))) | none => .stuck)
  | _ => .stuck
@[simp] theorem mLm_ap {f : List MV → List MV → Option (List MV × MV)} {i : Nat} {a : MA} : mLm f i a (r :: ρ) = if isOwn (r :: ρ) i then (a (r :: ρ)).bind (lmM f i) else .stuck := nr rfl
@[simp] theorem lmM_o {f : List MV → List MV → Option (List MV × MV)} {i : Nat} {xs ys : List MV} (h : ρ[i]? = some (some (.own xs))) : lmM f i ys ρ = (match f xs ys with | some (zs, z) => .ok (z, ρ.set i (some (.own zs))) | none => .stuck) := by unfold lmM; rw [h]
@[simp] theorem isOwn_o {i : Nat} {xs : List MV} (h : ρ[i]? = some (some (.own xs))) : isOwn ρ i = true := by unfold isOwn; rw [h]
@[simp] theorem flatM_i {k : Int} : flatM (.int k) = true := nr rfl
@[simp] theorem mItV_ap  : mItV a (r :: ρ) = (a (r :: ρ)).bind fun x ρ1 => match itemsOf x with | some xs => .ok (xs, ρ1) | none => .stuck := nr rfl
@[simp] theorem mZip_ap {a : MA} : mZip a (r :: ρ) = (a (r :: ρ)).bind fun xs ρ1 => match xs with
  | [x, y] => (match zitM x, zitM y with | some xs, some ys => .ok (zipM xs ys, ρ1) | _, _ => .stuck)
  | _ => .stuck := nr rfl
@[simp] theorem zitM_l {xs : List MV} : zitM (.lst xs) = some xs := nr rfl
@[simp] theorem zitM_t {xs : List MV} : zitM (.tup xs) = some xs := nr rfl
@[simp] theorem zitM_s {z : Str} : zitM (.str z) = some (signsM z) := nr rfl
@[simp] theorem mEnum_ap {a : MA} : mEnum a (r :: ρ) = (a (r :: ρ)).bind fun xs ρ1 => match xs with
  | [.lst xs] => .ok (enumFrom 0 xs, ρ1)
  | _ => .stuck := nr rfl
@[simp] theorem mYes_ap  : mYes (r :: ρ) = .ok (true, (r :: ρ)) := nr rfl
@[simp] theorem mFor_ap {i : MI} {g : MG} {b : MS} : mFor i g b (r :: ρ) = (i (r :: ρ)).bind fun xs ρ1 => mLoop g b xs ρ1 := nr rfl
@[simp] theorem mLcO_ap {it : MI} {g : Tgt} {t : MT} {vs : List Nat} : mLcO it g t a vs (r :: ρ) = (it (r :: ρ)).bind fun xs ρ1 => if perAt ρ1 vs then (mLcLoop g t a vs xs [] ρ1).b0 fun ys ρ2 => .ok (.own ys, backM ρ1 ρ2 vs) else .stuck := nr rfl
end
@[simp] theorem fz_lst {xs : List MV} : fz (.lst xs) = some (.lst xs) := nr rfl
@[simp] theorem fz_own {xs : List MV} : fz (.own xs) = some (.lst xs) := nr rfl
@[simp] theorem fz_tup {xs : List MV} : fz (.tup xs) = some (.tup xs) := nr rfl
@[simp] theorem fz_int {i : Int} : fz (.int i) = some (.int i) := nr rfl
@[simp] theorem fz_bl {i : Bool} : fz (.bl i) = some (.bl i) := nr rfl
@[simp] theorem fz_str {i : Str} : fz (.str i) = some (.str i) := nr rfl
@[simp] theorem fz_non : fz .non = some .non := nr rfl
@[simp] theorem fz_scr {i : List Int} : fz (.scr i) = some (.scr i) := nr rfl
section
variable {i j : Int}
@[simp] theorem fAdd_ii : fAdd (.int i) (.int j) = some (.int (i + j)) := nr rfl
@[simp] theorem fAdd_ss {a b : Str} : fAdd (.str a) (.str b) = if szOk (a.length + b.length) then some (.str (a ++ b)) else none := nr rfl
@[simp] theorem fAdd_ll {a b : List MV} : fAdd (.lst a) (.lst b) = if szOk (a.length + b.length) then some (.lst (a ++ b)) else none := nr rfl
@[simp] theorem fAdd_tt {a b : List MV} : fAdd (.tup a) (.tup b) = if szOk (a.length + b.length) then some (.tup (a ++ b)) else none := nr rfl
@[simp] theorem fSub_ii : fSub (.int i) (.int j) = some (.int (i - j)) := nr rfl
@[simp] theorem fMul_ii : fMul (.int i) (.int j) = if mulOk i j then some (.int (i * j)) else none := nr rfl
@[simp] theorem fDiv_ii : fDiv (.int i) (.int j) = if divOk j then some (.int (i.fdiv j)) else none := nr rfl
@[simp] theorem fMod_ii : fMod (.int i) (.int j) = if decide (j ≠ 0) then some (.int (i.fmod j)) else none := nr rfl
@[simp] theorem fPow_ii : fPow (.int i) (.int j) = if decide (0 ≤ j) && decide (j ≤ 1000000) && decide (i.natAbs < 2 ^ 64) then some (.int (i ^ j.toNat)) else none := nr rfl
@[simp] theorem fLt_ii : fLt (.int i) (.int j) = some (.bl (decide (i < j))) := nr rfl
@[simp] theorem fGt_ii : fGt (.int i) (.int j) = some (.bl (decide (j < i))) := nr rfl
@[simp] theorem fGe_ii : fGe (.int i) (.int j) = some (.bl (decide (j ≤ i))) := nr rfl
@[simp] theorem fEq_ii : fEq (.int i) (.int j) = some (.bl (decide (i = j))) := nr rfl
@[simp] theorem fNe_ii : fNe (.int i) (.int j) = some (.bl (!decide (i = j))) := nr rfl
@[simp] theorem fEq_ss {a b : Str} : fEq (.str a) (.str b) = some (.bl (decide (a = b))) := nr rfl
@[simp] theorem fNe_ss {a b : Str} : fNe (.str a) (.str b) = some (.bl (!decide (a = b))) := nr rfl
@[simp] theorem bLen_l {a : List MV} : bLen [.lst a] = some (.int a.length) := nr rfl
@[simp] theorem bLen_t {a : List MV} : bLen [.tup a] = some (.int a.length) := nr rfl
@[simp] theorem bLen_c {a : List Int} : bLen [.scr a] = some (.int a.length) := nr rfl
@[simp] theorem bAbs_i : bAbs [.int i] = some (.int (if i < 0 then -i else i)) := nr rfl
@[simp] theorem bInt_i : bInt [.int i] = some (.int i) := nr rfl
@[simp] theorem bInt_b {k : Bool} : bInt [.bl k] = some (.int (if k then 1 else 0)) := nr rfl
@[simp] theorem fIx_l {a : List MV} : fIx (.lst a) (.int i) = atI a i := nr rfl
@[simp] theorem fIx_t {a : List MV} : fIx (.tup a) (.int i) = atI a i := nr rfl
@[simp] theorem fIx_c {a : List Int} : fIx (.scr a) (.int i) = (atI a i).map .int := nr rfl
@[simp] theorem itemsOf_l {a : List MV} : itemsOf (.lst a) = some a := nr rfl
@[simp] theorem itemsOf_t {a : List MV} : itemsOf (.tup a) = some a := nr rfl
@[simp] theorem itemsOf_c {a : List Int} : itemsOf (.scr a) = some (a.map .int) := nr rfl
@[simp] theorem lmAppend_1 {a : List MV} {y : MV} : lmAppend a [y] = if decide (a.length < sizeLine) then some (a ++ [y], .non) else none := nr rfl
end
@[simp] theorem nat_neg {k : Nat} : ((k : Int) < 0) = False := by simp
@[simp] theorem nat_toNat {k : Nat} : ((k : Int)).toNat = k := nr rfl
theorem szOk_small {n : Nat} (h : n ≤ 16777216) : szOk n = true := szOk_iff.mpr (by rw [sizeLine_eq]; exact h)
theorem atI_ge {α : Type} {xs : List α} {i : Int} (h : 0 ≤ i) : atI xs i = xs[i.toNat]? := by
  unfold atI ixN
  rw [if_pos h]
  by_cases e : i < xs.length
  · rw [if_pos e]; rfl
  · rw [if_neg e, List.getElem?_eq_none (by omega)]; rfl
@[simp] theorem atI_0 {α : Type} {xs : List α} : atI xs 0 = xs[0]? := atI_ge (by decide)
@[simp] theorem atI_1 {α : Type} {xs : List α} : atI xs 1 = xs[1]? := atI_ge (by decide)
@[simp] theorem atI_2 {α : Type} {xs : List α} : atI xs 2 = xs[2]? := atI_ge (by decide)
@[simp] theorem atI_3 {α : Type} {xs : List α} : atI xs 3 = xs[3]? := atI_ge (by decide)
@[simp] theorem atI_4 {α : Type} {xs : List α} : atI xs 4 = xs[4]? := atI_ge (by decide)
@[simp] theorem atI_5 {α : Type} {xs : List α} : atI xs 5 = xs[5]? := atI_ge (by decide)
@[simp] theorem atI_6 {α : Type} {xs : List α} : atI xs 6 = xs[6]? := atI_ge (by decide)
@[simp] theorem atI_7 {α : Type} {xs : List α} : atI xs 7 = xs[7]? := atI_ge (by decide)
@[simp] theorem atI_8 {α : Type} {xs : List α} : atI xs 8 = xs[8]? := atI_ge (by decide)
@[simp] theorem atI_9 {α : Type} {xs : List α} : atI xs 9 = xs[9]? := atI_ge (by decide)
@[simp] theorem atI_10 {α : Type} {xs : List α} : atI xs 10 = xs[10]? := atI_ge (by decide)
@[simp] theorem atI_11 {α : Type} {xs : List α} : atI xs 11 = xs[11]? := atI_ge (by decide)
@[simp] theorem atI_12 {α : Type} {xs : List α} : atI xs 12 = xs[12]? := atI_ge (by decide)
@[simp] theorem atI_13 {α : Type} {xs : List α} : atI xs 13 = xs[13]? := atI_ge (by decide)
@[simp] theorem atI_14 {α : Type} {xs : List α} : atI xs 14 = xs[14]? := atI_ge (by decide)
@[simp] theorem atI_15 {α : Type} {xs : List α} : atI xs 15 = xs[15]? := atI_ge (by decide)
theorem mulOk_l {i j : Int} (h1 : -(2 ^ 64) < i) (h2 : i < 2 ^ 64) : mulOk i j = true := by simp only [mulOk, Bool.or_eq_true, Bool.and_eq_true, decide_eq_true_eq]; exact .inl (.inl ⟨h1, h2⟩)
theorem mulOk_r {i j : Int} (h1 : -(2 ^ 64) < j) (h2 : j < 2 ^ 64) : mulOk i j = true := by simp only [mulOk, Bool.or_eq_true, Bool.and_eq_true, decide_eq_true_eq]; exact .inl (.inr ⟨h1, h2⟩)
theorem inR_of {i : Int} (h1 : -(2 ^ 62) ≤ i) (h2 : i < 2 ^ 62) : inR i = true := inR_iff.mpr ⟨h1, h2⟩
theorem loop_inv {g : MG} {b : MS} (I : Nat → Env → Prop) : ∀ (xs : List MV) (k : Nat) (ρ : Env), I k ρ → (∀ i x ρ, xs[i]? = some x → I (k + i) ρ → ∃ ρ1 ρ2, g x ρ = some ρ1 ∧ (b ρ1 = .ok (.nx, ρ2) ∨ b ρ1 = .ok (.ct, ρ2)) ∧ I (k + i + 1) ρ2) → ∃ ρ', mLoop g b xs ρ = .ok (.nx, ρ') ∧ I (k + xs.length) ρ'
  | [], k, ρ, h, _ => ⟨ρ, rfl, h⟩
  | x :: xs, k, ρ, h, hs => by
    obtain ⟨ρ1, ρ2, e1, e2, h2⟩ := hs 0 x ρ rfl h
    obtain ⟨ρ', e3, h3⟩ := loop_inv I xs (k + 1) ρ2 h2 (fun i y ρ hy hi => by
      have := hs (i + 1) y ρ (by simpa using hy) (by rw [show k + (i + 1) = k + 1 + i by omega]; exact hi)
      rw [show k + 1 + i + 1 = k + (i + 1) + 1 by omega]
      exact this)
    refine ⟨ρ', ?_, by rw [List.length_cons, show k + (xs.length + 1) = k + 1 + xs.length by omega]; exact h3⟩
    unfold mLoop
    rw [e1]
    rcases e2 with e2 | e2 <;> (simp only [e2, bind_ok]; exact e3)
theorem loop_rng {g : MG} {b : MS} {lo c : Int} {n : Nat} {ρ : Env} (I : Nat → Env → Prop) (h0 : I 0 ρ) (hs : ∀ i ρ, i < n → I i ρ → ∃ ρ1 ρ2, g (.int (lo + (i : Nat) * c)) ρ = some ρ1 ∧ (b ρ1 = .ok (.nx, ρ2) ∨ b ρ1 = .ok (.ct, ρ2)) ∧ I (i + 1) ρ2) :
    ∃ ρ', mLoop g b (rngM lo c n) ρ = .ok (.nx, ρ') ∧ I n ρ' := by
  obtain ⟨ρ', e, h⟩ := loop_inv I (rngM lo c n) 0 ρ h0 fun i x ρ hx hi => by
    have li := lt_get hx
    rw [rngM_len] at li
    rw [rngM_get li] at hx
    cases hx
    have := hs i ρ li (by simpa using hi)
    simpa using this
  rw [rngM_len, Nat.zero_add] at h
  exact ⟨ρ', e, h⟩
theorem loop_nx {g : MG} {b : MS} (I : Nat → Env → Prop) (xs : List MV) {ρ : Env} (h0 : I 0 ρ) (hs : ∀ i x ρ, xs[i]? = some x → I i ρ → ∃ ρ1, g x ρ = some ρ1 ∧ ∃ ρ2, b ρ1 = .ok (.nx, ρ2) ∧ I (i + 1) ρ2) : ∃ ρ', mLoop g b xs ρ = .ok (.nx, ρ') ∧ I xs.length ρ' := by
  have := loop_inv (g := g) (b := b) I xs 0 ρ h0 fun i x ρ hx hi => by
    obtain ⟨ρ1, e, ρ2, e2, h⟩ := hs i x ρ hx (by simpa using hi)
    exact ⟨ρ1, ρ2, e, .inl e2, by simpa using h⟩
  simpa using this
def okD : Nat → MV → Bool
  | _, .non => true
  | _, .bl _ => true
  | _, .int _ => true
  | _, .str x => (PyData.str x).canLay0
  | n + 1, .tup xs => xs.all (okD n)
  | n + 1, .lst xs => xs.all (okD n)
  | _, _ => false
theorem okDs_to {n : Nat} (ih : ∀ x, okD n x = true → ∃ d, toD x = some d ∧ d.canLay0 = true ∧ d.depth ≤ n) : ∀ xs : List MV, xs.all (okD n) = true → ∃ ds, toDs xs = some ds ∧ PyData.canLayAll0 ds = true ∧ PyData.depthAll ds ≤ n
  | [], _ => ⟨[], rfl, by simp [PyData.canLayAll0], by simp [PyData.depthAll]⟩
  | x :: xs, h => by
    simp only [List.all_cons, Bool.and_eq_true] at h
    obtain ⟨d, e, c, p⟩ := ih x h.1
    obtain ⟨ds, es, cs, ps⟩ := okDs_to ih xs h.2
    refine ⟨d :: ds, by simp [toDs, e, es], by simp [PyData.canLayAll0, c, cs], by simp only [PyData.depthAll]; omega⟩
theorem okD_to : ∀ (n : Nat) (x : MV), okD n x = true → ∃ d, toD x = some d ∧ d.canLay0 = true ∧ d.depth ≤ n
  | n, .non, _ => ⟨_, rfl, rfl, by simp [PyData.depth]⟩
  | n, .bl _, _ => ⟨_, rfl, rfl, by simp [PyData.depth]⟩
  | n, .int _, _ => ⟨_, rfl, rfl, by simp [PyData.depth]⟩
  | n, .str x, h => ⟨.str x, rfl, by cases n <;> exact h, by simp [PyData.depth]⟩
  | 0, .tup _, h => by simp [okD] at h
  | 0, .lst _, h => by simp [okD] at h
  | n + 1, .tup xs, h => by
    obtain ⟨ds, e, c, p⟩ := okDs_to (okD_to n) xs h
    exact ⟨.tuple ds, by simp [toD, e], by simpa [PyData.canLay0] using c, by simp only [PyData.depth]; omega⟩
  | n + 1, .lst xs, h => by
    obtain ⟨ds, e, c, p⟩ := okDs_to (okD_to n) xs h
    exact ⟨.list ds, by simp [toD, e], by simpa [PyData.canLay0] using c, by simp only [PyData.depth]; omega⟩
  | n, .own _, h => by cases n <;> simp [okD] at h
  | n, .raw _, h => by cases n <;> simp [okD] at h
  | n, .scr _, h => by cases n <;> simp [okD] at h
  | n, .fnc _, h => by cases n <;> simp [okD] at h
  | n, .obj _ _, h => by cases n <;> simp [okD] at h
  | n, .dct _ _, h => by cases n <;> simp [okD] at h
  | n, .dow _ _, h => by cases n <;> simp [okD] at h
  | n, .dot _ _, h => by cases n <;> simp [okD] at h
  | n, .ols _, h => by cases n <;> simp [okD] at h
  | n, .exn _ _, h => by cases n <;> simp [okD] at h
theorem eqM_self {n : Nat} {x : MV} (hn : n ≤ 64) (h : okD n x = true) : eqM x x = some true := by
  unfold eqM
  by_cases hs : scalM x x = true
  · rw [if_pos hs]
    cases x <;> simp_all [scalM, sameM]
  · rw [if_neg hs]
    obtain ⟨d, e, c, p⟩ := okD_to n x h
    have hd : SeqAt.shaped d = true := by
      unfold SeqAt.shaped
      rw [c]
      simp
      omega
    rw [e]
    simp only [hd, Bool.and_self, if_true]
    rw [SeqAt.eqv_refl d c]
@[simp] theorem fEq_tt {xs : List MV} (h : xs.all (okD 20) = true) : fEq (.tup xs) (.tup xs) = some (.bl true) := by unfold fEq; rw [eqM_self (n := 21) (by decide) (x := .tup xs) h]; rfl
@[simp] theorem fNe_tt {xs : List MV} (h : xs.all (okD 20) = true) : fNe (.tup xs) (.tup xs) = some (.bl false) := by unfold fNe; rw [eqM_self (n := 21) (by decide) (x := .tup xs) h]; rfl
@[simp] theorem fEq_lle {xs : List MV} (h : xs.all (okD 20) = true) : fEq (.lst xs) (.lst xs) = some (.bl true) := by unfold fEq; rw [eqM_self (n := 21) (by decide) (x := .lst xs) h]; rfl
@[simp] theorem fNe_lle {xs : List MV} (h : xs.all (okD 20) = true) : fNe (.lst xs) (.lst xs) = some (.bl false) := by unfold fNe; rw [eqM_self (n := 21) (by decide) (x := .lst xs) h]; rfl
@[simp] theorem okD_i {n : Nat} {i : Int} : okD n (.int i) = true := by cases n <;> rfl
@[simp] theorem okD_b {n : Nat} {i : Bool} : okD n (.bl i) = true := by cases n <;> rfl
@[simp] theorem okD_n {n : Nat} : okD n .non = true := by cases n <;> rfl
end Tm
set_option Elab.async false
set_option linter.all false
set_option maxRecDepth 100000
set_option maxHeartbeats 2000000
namespace Tm
open PySem L2
theorem mFn_ok {n : Nat} {m : MS} {xs : List MV} {v : MV} (h : ∃ ρ, m (xs.map some ++ List.replicate (n - xs.length) none) = .ok (.rt v, ρ)) : mFn n [] m xs = .ok (v, []) := by
  obtain ⟨ρ, h⟩ := h
  unfold mFn; rw [h]; rfl
theorem fmod_lt' {a b : Int} (h : 0 < b) : a.fmod b < b := Int.fmod_lt_of_pos a h
theorem fmod_ge' {a b : Int} (h : 0 < b) : 0 ≤ a.fmod b := Int.fmod_nonneg_of_pos a h
theorem back_wipe : ∀ (vs : List Nat) (ρ ρ' : Env), ρ.length = ρ'.length → (∀ j, j ∉ vs → ρ'[j]? = ρ[j]?) → backM ρ ρ' vs = ρ := by
  have key : ∀ (vs : List Nat) (ρ ρ' : Env) (j : Nat), ρ.length = ρ'.length → (backM ρ ρ' vs)[j]? = if j ∈ vs then ρ[j]? else ρ'[j]? := by
    intro vs
    induction vs with
    | nil => intro ρ ρ' j hl; simp [backM]
    | cons v vs ih =>
      intro ρ ρ' j hl
      show (backM ρ (ρ'.set v ((ρ[v]?).join)) vs)[j]? = _
      rw [ih ρ _ j (by simp [hl])]
      by_cases e : j ∈ vs
      · simp [e]
      · by_cases e2 : j = v
        · subst e2
          by_cases hlt : j < ρ'.length
          · simp [e, List.getElem?_set_self hlt, show j < ρ.length by omega]
          · simp [e, List.getElem?_eq_none (show ρ'.length ≤ j by omega), List.getElem?_eq_none (show ρ.length ≤ j by omega)]
            omega
        · simp [e, e2, List.getElem?_set_ne (Ne.symm e2)]
  intro vs ρ ρ' hl h
  apply List.ext_getElem?
  intro j
  rw [key vs ρ ρ' j hl]
  by_cases e : j ∈ vs
  · simp [e]
  · simp [e, h j e]
theorem wipe_other {ρ ρ' : Env} {vs : List Nat} (hl : ρ.length = ρ'.length) (h : wipeM ρ' vs = wipeM ρ vs) : ∀ j, j ∉ vs → ρ'[j]? = ρ[j]? := by
  intro j hj
  have h1 := wipeM_get ρ vs j
  have h2 := wipeM_get ρ' vs j
  rw [if_neg (by simp [hj])] at h1 h2
  rw [← h1, ← h2, h]
theorem lc_map {g : Tgt} {e : ME} {vs : List Nat} {W : Env} (y : MV → MV) : ∀ (xs acc : List MV) (ρ : Env), (∀ x ∈ xs, ∃ ρ1, setT g x W = some ρ1 ∧ e ρ1 = .ok (y x, ρ1) ∧ wipeM ρ1 vs = W ∧ ρ1.length = W.length) → wipeM ρ vs = W → ρ.length = W.length → acc.length + xs.length ≤ sizeLine →
    ∃ ρ', mLcLoop g mYes e vs xs acc ρ = .ok (acc ++ xs.map y, ρ') ∧ wipeM ρ' vs = W ∧ ρ'.length = W.length
  | [], acc, ρ, _, hw, hl, _ => ⟨ρ, by simp [mLcLoop], hw, hl⟩
  | x :: xs, acc, ρ, h, hw, hl, hz => by
    obtain ⟨ρ1, e1, e2, e3, e4⟩ := h x (List.mem_cons_self ..)
    rw [List.length_cons] at hz
    obtain ⟨ρ', r1, r2, r3⟩ := lc_map (g := g) (e := e) (vs := vs) y xs (acc ++ [y x]) ρ1 (fun z hz => h z (List.mem_cons_of_mem _ hz)) e3 e4 (by rw [List.length_append, List.length_singleton]; omega)
    refine ⟨ρ', ?_, r2, r3⟩
    unfold mLcLoop
    rw [hw, e1]
    simp only [mYes, b0_ok, if_true, e2]
    rw [if_pos ⟨by omega, by rw [e4, hl]⟩, r1]
    simp
theorem mLcO_map {it : MI} {g : Tgt} {e : ME} {vs : List Nat} {ρ ρ1 : Env} {xs : List MV} (y : MV → MV) (hi : it ρ = .ok (xs, ρ1)) (hp : perAt ρ1 vs = true) (hx : ∀ x ∈ xs, ∃ ρ2, setT g x (wipeM ρ1 vs) = some ρ2 ∧ e ρ2 = .ok (y x, ρ2) ∧ wipeM ρ2 vs = wipeM ρ1 vs ∧ ρ2.length = ρ1.length) (hz : xs.length ≤ sizeLine) :
    mLcO it g mYes e vs ρ = .ok (.own (xs.map y), ρ1) := by
  obtain ⟨ρ', r1, r2, r3⟩ := lc_map (g := g) (e := e) (vs := vs) (W := wipeM ρ1 vs) y xs [] ρ1 (fun x h => by
    obtain ⟨ρ2, a, b, c, d⟩ := hx x h
    exact ⟨ρ2, a, b, c, by rw [d, wipeM_len]⟩) rfl (wipeM_len ..).symm (by simpa using hz)
  unfold mLcO
  rw [hi, bind_ok, if_pos hp, r1]
  simp only [b0_ok, List.nil_append]
  rw [back_wipe vs ρ1 ρ' (by rw [r3, wipeM_len]) (wipe_other (by rw [r3, wipeM_len]) r2)]
end Tm
set_option Elab.async false
set_option linter.all false
set_option maxRecDepth 100000
set_option maxHeartbeats 2000000
namespace Tm
open PySem L2
section
variable {α β : Type} {ρ : Env} {r : Option MV} {x f g y : Str} {a b : ME}
@[simp] theorem mRaise1_ap : mRaise1 x f a (r :: ρ) = (a (r :: ρ)).bind fun y ρ1 => .exc ⟨x, [(f, y)]⟩ ρ1 := nr rfl
@[simp] theorem mRaise2_ap : mRaise2 x f g a b (r :: ρ) = (a (r :: ρ)).bind fun y ρ1 => (b ρ1).bind fun z ρ2 => .exc ⟨x, [(g, z), (f, y)]⟩ ρ2 := nr rfl
variable {i : Nat} {tab : List (Str × Bool)} {mb : MS} {mh : MX → MS} {e : MX} {q : Fl × Env}
theorem mFn_exc {n : Nat} {m : MS} {xs : List MV} {e : MX} (h : ∃ ρ, m (xs.map some ++ List.replicate (n - xs.length) none) = .exc e ρ) : mFn n [] m xs = .exc e [] := by
  obtain ⟨ρ, h⟩ := h
  unfold mFn; rw [h]; rfl
end
section
variable {i : Int} {b b' : Bool} {x y : Str}
@[simp] theorem fEq_nn : fEq .non .non = some (.bl true) := nr rfl
@[simp] theorem fNe_nn : fNe .non .non = some (.bl false) := nr rfl
@[simp] theorem fEq_ni : fEq .non (.int i) = some (.bl false) := nr rfl
@[simp] theorem fEq_in : fEq (.int i) .non = some (.bl false) := nr rfl
@[simp] theorem fNe_ni : fNe .non (.int i) = some (.bl true) := nr rfl
@[simp] theorem fNe_in : fNe (.int i) .non = some (.bl true) := nr rfl
@[simp] theorem fEq_ns : fEq .non (.str x) = some (.bl false) := nr rfl
@[simp] theorem fEq_sn : fEq (.str x) .non = some (.bl false) := nr rfl
@[simp] theorem fNe_ns : fNe .non (.str x) = some (.bl true) := nr rfl
@[simp] theorem fNe_sn : fNe (.str x) .non = some (.bl true) := nr rfl
@[simp] theorem fEq_bb : fEq (.bl b) (.bl b') = some (.bl (decide (b = b'))) := nr rfl
@[simp] theorem fNe_bb : fNe (.bl b) (.bl b') = some (.bl (!decide (b = b'))) := nr rfl
@[simp] theorem fEq_is : fEq (.int i) (.str x) = some (.bl false) := nr rfl
@[simp] theorem fEq_si : fEq (.str x) (.int i) = some (.bl false) := nr rfl
@[simp] theorem fIsN_n : fIsN .non .non = some (.bl true) := nr rfl
@[simp] theorem fIsN_i : fIsN (.int i) .non = some (.bl false) := nr rfl
@[simp] theorem fIsN_s : fIsN (.str x) .non = some (.bl false) := nr rfl
@[simp] theorem fIsN_t {xs : List MV} : fIsN (.tup xs) .non = some (.bl false) := nr rfl
@[simp] theorem fIsN_b : fIsN (.bl b) .non = some (.bl false) := nr rfl
@[simp] theorem fNotN_n : fNotN .non .non = some (.bl false) := nr rfl
@[simp] theorem fNotN_i : fNotN (.int i) .non = some (.bl true) := nr rfl
@[simp] theorem fNotN_s : fNotN (.str x) .non = some (.bl true) := nr rfl
@[simp] theorem fNotN_t {xs : List MV} : fNotN (.tup xs) .non = some (.bl true) := nr rfl
@[simp] theorem fNotN_b : fNotN (.bl b) .non = some (.bl true) := nr rfl
end
@[simp] theorem fIx_s {z : Str} {i : Int} : fIx (.str z) (.int i) = if szOk z.length then (atI z.cps.toList i).map fun c => MV.str ⟨#[c]⟩ else none := nr rfl
@[simp] theorem bLen_s {z : Str} : bLen [.str z] = if szOk z.length then some (.int z.length) else none := nr rfl
theorem fMul_l {a : List MV} {k : Int} (h : 0 ≤ k) (h2 : k < 2 ^ 63) (h3 : szOk (a.length * k.toNat) = true) : fMul (.lst a) (.int k) = some (.lst (List.replicate k.toNat a).flatten) := by
  show (if (decide (-(2 ^ 63) ≤ k) && decide (k < 2 ^ 63) && szOk (a.length * k.toNat)) = true then some (MV.lst (List.replicate k.toNat a).flatten) else none) = _
  rw [if_pos]
  simp only [h2, h3, decide_true, Bool.and_true, decide_eq_true_eq]
  omega
theorem rep_one {α : Type} (x : α) (k : Nat) : (List.replicate k [x]).flatten = List.replicate k x := by
  induction k with
  | zero => rfl
  | succ k ih => rw [List.replicate_succ, List.flatten_cons, ih]; rfl
theorem fMul_1 {x : MV} {k : Nat} (h : k < 1000000) : fMul (.lst [x]) (.int (k : Nat)) = some (.lst (List.replicate k x)) := by
  rw [fMul_l (by omega) (by omega) (szOk_small (by simp; omega))]
  show some (MV.lst (List.replicate k [x]).flatten) = _
  rw [rep_one]
@[simp] theorem fMul_10 {x : MV} : fMul (.lst [x]) (.int 0) = some (.lst []) := fMul_1 (k := 0) (by decide)
@[simp] theorem fMul_11 {x : MV} : fMul (.lst [x]) (.int 1) = some (.lst [x]) := fMul_1 (k := 1) (by decide)
end Tm
set_option Elab.async false
set_option linter.all false
set_option maxRecDepth 100000
set_option maxHeartbeats 2000000
namespace Tm
open PySem L2
theorem lc_filt {g : Tgt} {t : MT} {e : ME} {vs : List Nat} {W : Env} (p : MV → Bool) (y : MV → MV) : ∀ (xs acc : List MV) (ρ : Env), (∀ x ∈ xs, ∃ ρ1, setT g x W = some ρ1 ∧ t ρ1 = .ok (p x, ρ1) ∧ (p x = true → e ρ1 = .ok (y x, ρ1)) ∧ wipeM ρ1 vs = W ∧ ρ1.length = W.length) → wipeM ρ vs = W → ρ.length = W.length → acc.length + xs.length ≤ sizeLine →
    ∃ ρ', mLcLoop g t e vs xs acc ρ = .ok (acc ++ (xs.filter p).map y, ρ') ∧ wipeM ρ' vs = W ∧ ρ'.length = W.length
  | [], acc, ρ, _, hw, hl, _ => ⟨ρ, by simp [mLcLoop], hw, hl⟩
  | x :: xs, acc, ρ, h, hw, hl, hz => by
    obtain ⟨ρ1, e1, et, e2, e3, e4⟩ := h x (List.mem_cons_self ..)
    rw [List.length_cons] at hz
    cases hp : p x with
    | true =>
      obtain ⟨ρ', r1, r2, r3⟩ := lc_filt (g := g) (t := t) (e := e) (vs := vs) p y xs (acc ++ [y x]) ρ1 (fun z hz => h z (List.mem_cons_of_mem _ hz)) e3 e4 (by rw [List.length_append, List.length_singleton]; omega)
      refine ⟨ρ', ?_, r2, r3⟩
      unfold mLcLoop
      rw [hw, e1]
      simp only [et, hp, b0_ok, if_true, e2 hp]
      rw [if_pos ⟨by omega, by rw [e4, hl]⟩, r1, List.filter_cons_of_pos hp]
      simp
    | false =>
      obtain ⟨ρ', r1, r2, r3⟩ := lc_filt (g := g) (t := t) (e := e) (vs := vs) p y xs acc ρ1 (fun z hz => h z (List.mem_cons_of_mem _ hz)) e3 e4 (by omega)
      refine ⟨ρ', ?_, r2, r3⟩
      unfold mLcLoop
      rw [hw, e1]
      simp only [et, hp, b0_ok, Bool.false_eq_true, if_false]
      rw [if_pos (by rw [e4, hl]), r1, List.filter_cons_of_neg (by simp [hp])]
theorem mLcO_filt {it : MI} {g : Tgt} {t : MT} {e : ME} {vs : List Nat} {ρ ρ1 : Env} {xs : List MV} (p : MV → Bool) (y : MV → MV) (hi : it ρ = .ok (xs, ρ1)) (hp : perAt ρ1 vs = true) (hx : ∀ x ∈ xs, ∃ ρ2, setT g x (wipeM ρ1 vs) = some ρ2 ∧ t ρ2 = .ok (p x, ρ2) ∧ (p x = true → e ρ2 = .ok (y x, ρ2)) ∧ wipeM ρ2 vs = wipeM ρ1 vs ∧ ρ2.length = ρ1.length) (hz : xs.length ≤ sizeLine) :
    mLcO it g t e vs ρ = .ok (.own ((xs.filter p).map y), ρ1) := by
  obtain ⟨ρ', r1, r2, r3⟩ := lc_filt (g := g) (t := t) (e := e) (vs := vs) (W := wipeM ρ1 vs) p y xs [] ρ1 (fun x h => by
    obtain ⟨ρ2, a, b, c, d, f⟩ := hx x h
    exact ⟨ρ2, a, b, c, d, by rw [f, wipeM_len]⟩) rfl (wipeM_len ..).symm (by simpa using hz)
  unfold mLcO
  rw [hi, bind_ok, if_pos hp, r1]
  simp only [b0_ok, List.nil_append]
  rw [back_wipe vs ρ1 ρ' (by rw [r3, wipeM_len]) (wipe_other (by rw [r3, wipeM_len]) r2)]
theorem set_none {ρ : Env} {v : Nat} (hv : ρ[v]? = some none) : ρ.set v none = ρ := by
  apply List.ext_getElem?
  intro j
  by_cases e : v = j
  · subst e; rw [List.getElem?_set_self (lt_get hv), hv]
  · rw [List.getElem?_set_ne e]
theorem mLcO_nmf {it : MI} {t : MT} {e : ME} {v : Nat} {ρ : Env} {xs : List MV} (p : MV → Bool) (y : MV → MV) (hi : it ρ = .ok (xs, ρ)) (hv : ρ[v]? = some none) (ht : ∀ x ∈ xs, t (ρ.set v (some x)) = .ok (p x, ρ.set v (some x))) (he : ∀ x ∈ xs, p x = true → e (ρ.set v (some x)) = .ok (y x, ρ.set v (some x))) (hz : xs.length ≤ sizeLine) :
    mLcO it (.nm v) t e [v] ρ = .ok (.own ((xs.filter p).map y), ρ) := by
  have lv := lt_get hv
  have w : wipeM ρ [v] = ρ := set_none hv
  refine mLcO_filt p y hi (by simp [perAt, hv]) (fun x hx => ?_) hz
  rw [w]
  refine ⟨ρ.set v (some x), by simp [setT, lv], ht x hx, he x hx, ?_, by simp⟩
  show (ρ.set v (some x)).set v none = ρ
  rw [List.set_set]
  exact w
theorem mLcO_nm {it : MI} {e : ME} {v : Nat} {ρ : Env} {xs : List MV} (y : MV → MV) (hi : it ρ = .ok (xs, ρ)) (hv : ρ[v]? = some none) (he : ∀ x ∈ xs, e (ρ.set v (some x)) = .ok (y x, ρ.set v (some x))) (hz : xs.length ≤ sizeLine) :
    mLcO it (.nm v) mYes e [v] ρ = .ok (.own (xs.map y), ρ) := by
  have := mLcO_nmf (t := mYes) (fun _ => true) y hi hv (fun _ _ => rfl) (fun x hx _ => he x hx) hz
  rwa [List.filter_eq_self.mpr (fun _ _ => rfl)] at this
section
variable {α β : Type} {a b : ME} {m : MA} {ρ : Env} {r : Option MV}
@[simp] theorem mSm_ap {f : Str → List MV → Option MV} : mSm f a m (r :: ρ) = (a (r :: ρ)).bind fun x ρ1 => match x with | .str z => (m ρ1).bind (smE f z) | _ => .stuck := nr rfl
theorem smE_ok {f : Str → List MV → Option MV} {z : Str} {ys : List MV} {w : MV} (h : f z ys = some w) : smE f z ys ρ = .ok (w, ρ) := by unfold smE; rw [h]
end
theorem strsOf_map : ∀ ss : List Str, strsOf (ss.map MV.str) = some ss
  | [] => rfl
  | s :: ss => by
    show (match strsOf (ss.map MV.str) with | some l => some (s :: l) | none => none) = _
    rw [strsOf_map ss]
@[simp] theorem fMul_s {a : Str} {k : Int} : fMul (.str a) (.int k) = if decide (-(2 ^ 63) ≤ k) && decide (k < 2 ^ 63) && szOk (a.length * k.toNat) then some (.str (repS a k)) else none := nr rfl
theorem fMul_tup {a : List MV} {k : Int} : fMul (.tup a) (.int k) = if (decide (-(2 ^ 63) ≤ k) && decide (k < 2 ^ 63) && (decide (k = 1) || a.isEmpty || (decide (2 ≤ k) && decide (k ≤ 1000) && decide (a.length ≤ 1000)))) = true then some (.tup (List.replicate k.toNat a).flatten) else none := rfl
@[simp] theorem fMul_t1 {a : List MV} : fMul (.tup a) (.int 1) = some (.tup a) := by
  rw [fMul_tup, if_pos (by simp)]
  simp
end Tm
set_option Elab.async false
set_option linter.all false
set_option maxRecDepth 100000
set_option maxHeartbeats 2000000
namespace Tm
open PySem L2
section
variable {ρ : Env} {r : Option MV}
@[simp] theorem cbE_ap {f : MF} {args : List BA} : cbE f args (r :: ρ) = match fill args (r :: ρ) with
  | some xs => (match f xs with | .ok (v, os) => .ok (v, back (r :: ρ) (idxB args) os) | .exc e os => .exc e (back (r :: ρ) (idxB args) os) | .stuck => .stuck)
  | none => .stuck := nr rfl
@[simp] theorem fill_nil {ρ : Env} : fill [] ρ = some [] := nr rfl
@[simp] theorem fill_v {ρ : Env} {x : MV} {s : List BA} : fill (.v x :: s) ρ = match fill s ρ with | some xs => some (x :: xs) | none => none := nr rfl
@[simp] theorem fill_b {ρ : Env} {i : Nat} {s : List BA} : fill (.b i :: s) ρ = match ρ[i]?, fill s ρ with | some (some x), some xs => if x.held then some (x :: xs) else none | _, _ => none := nr rfl
@[simp] theorem idxB_nil : idxB [] = [] := nr rfl
@[simp] theorem idxB_v {x : MV} {s : List BA} : idxB (.v x :: s) = idxB s := nr rfl
@[simp] theorem idxB_b {i : Nat} {s : List BA} : idxB (.b i :: s) = i :: idxB s := nr rfl
@[simp] theorem back_nil {ρ os : Env} : back ρ [] os = ρ := nr rfl
@[simp] theorem back_cons {ρ os : Env} {i : Nat} {is : List Nat} {o : Option MV} : back ρ (i :: is) (o :: os) = back (ρ.set i o) is os := nr rfl
@[simp] theorem held_own {xs : List MV} : (MV.own xs).held = true := nr rfl
@[simp] theorem held_obj {C : Str} {fs : List (Str × MV)} : (MV.obj C fs).held = true := nr rfl
end
theorem char_list_inj : ∀ {a b : List Char}, a.map Char.toNat = b.map Char.toNat → a = b
  | [], [], _ => rfl
  | [], _ :: _, h => by simp at h
  | _ :: _, [], h => by simp at h
  | c :: a, d :: b, h => by
    simp only [List.map_cons, List.cons.injEq] at h
    have e : c = d := by rw [← Char.ofNat_toNat c, ← Char.ofNat_toNat d, h.1]
    rw [e, char_list_inj h.2]
@[simp] theorem str_inj {a b : String} : (Str.ofString a = Str.ofString b) = (a = b) := by
  refine propext ⟨fun h => ?_, fun h => by rw [h]⟩
  rw [Str.ofString_eq_toList, Str.ofString_eq_toList] at h
  have h2 := congrArg (fun z : Str => z.cps.toList) h
  simp only at h2
  exact String.toList_inj.mp (char_list_inj h2)
end Tm
set_option Elab.async false
set_option linter.all false
set_option maxRecDepth 100000
set_option maxHeartbeats 2000000
namespace Tm
open PySem L2 PySem.Spec PyProof.Rows HotX
def HotS (X : Cx) : Prop := ∀ (pins : List (Addr × Obj)) (σ : L2.St) (H : Hp) (s : Shared), Inv X pins σ H s → ∃ x1, HotAt X.A x1 s.heap
structure TurnS (P : Program) (w : World) (K : PySem.W.Frag) (tg : Expr) (J : It) (it : Addr) (tn : Nat → Heap → Prop) : Prop where
  obj : ∀ i h, tn i h → ∃ o, h.get? it = some o ∧ ∀ v, o.data ≠ .cell v
  keep : ∀ i h h', tn i h → (∀ o, h.get? it = some o → h'.get? it = some o) → tn i h'
  item : ∀ (X : Cx), X.prog = P → X.w = w → X.K = K → ∀ (i : Nat) (pins : List (Addr × Obj)) (s : Shared) (σ : L2.St) (H : Hp) (E : Value → Shared → Prop), Inv X pins σ H s → FpOk X pins H it → tn i s.heap → J.go i H →
    wpAny (model P w) X.A (pyNext (.ref it)) (fun r s1 => ∃ u, r = some u ∧ wpAny (model P w) X.A (letOwnedTupleGo tg (.ref it) u) (fun _ s2 => ∃ x H', Inv X pins σ H' s2 ∧ RelV x u ∧ J.yld i H x H' ∧ tn (i + 1) s2.heap ∧ H' it = none) E s1) E s
  done : ∀ (X : Cx), X.prog = P → X.w = w → X.K = K → HotS X → ∀ (i : Nat) (pins : List (Addr × Obj)) (s : Shared) (σ : L2.St) (H : Hp) (E : Value → Shared → Prop), Inv X pins σ H s → FpOk X pins H it → tn i s.heap → J.stop i H →
    wpAny (model P w) X.A (pyNext (.ref it)) (fun r s1 => r = none ∧ Inv X pins σ H s1) E s
  self : ∀ (A : Around) (i : Nat) (s : Shared) (Q : Value → Shared → Prop) (E : Value → Shared → Prop), tn i s.heap → Q (.ref it) s → wpAny (model P w) A (pyIter (.ref it)) Q E s
structure PIS (X : Cx) (tg iter : Expr) (wi : TI) : Prop where
  run : ∀ (pins : List (Addr × Obj)) (s : Shared) (σ : L2.St) (H : Hp) (R : It → Hp → Prop), Inv X pins σ H s → wi σ H R →
    wpAny (model X.prog X.w) X.A (eval iter X.env) (fun v s1 => wpAny (model X.prog X.w) X.A (pyIter v) (fun u s2 => ∃ (it : Addr) (tn : Nat → Heap → Prop) (J : It) (H' : Hp), u = .ref it ∧ Inv X pins σ H' s2 ∧ TurnS X.prog X.w X.K tg J it tn ∧ tn 0 s2.heap ∧ FpOk X pins H' it ∧ R J H') X.xe s1) X.xe s
end Tm
set_option Elab.async false
set_option linter.all false
set_option maxRecDepth 100000
set_option maxHeartbeats 2000000
namespace Tm
open PySem L2 PySem.Spec PyProof.Rows
open Evl (Ex ex_rd ex_l ex_t)
structure FnE (P : Program) (w : World) (K : PySem.W.Frag) (mg : Str → Option Value) (base : Heap) (CX : CXT) (k : Nat) (f : Addr) (fd : FuncData) (ps : List Str) (sp : Addr × Obj → Sp) : Prop where
  len : ∀ p vs H Q E, sp p vs H Q E → vs.length = ps.length
  run : ∀ (A : Around) (outer : List PySem.Env) (s : Shared) (H : Hp) (args : Args) (us : List Value) (vs : List V) (Q : VK) (E : XK) (p : Addr × Obj), L2H.RoomH k A → L2H.Hot1 A p → L2H.PinOk outer H s p → Env0 P w K mg base A outer s H → BindsTo s fd args (ps.zip us) → Vals vs us → sp p vs H Q E →
    codeAny (model P w) A (.call (.ref f) args) (CR CX outer P w H s Q E) s
def spE (K : PySem.W.Frag) (mg : Str → Option Value) (ts : List Str) (f : MX → Res (MV × Env)) : Addr × Obj → Sp := fun p vs H Q _ => vs = [.ref p.1] ∧ ∃ (F Hk : Hp) (e : MX) (C : Addr) (d : Option Addr) (v : MV) (ρ' : Env), Ex Hk H ∧ Ex F H ∧ (∀ a o, F a = some o → Hk a = none) ∧
  mg e.cls = some (.ref C) ∧ e.cls ∈ ts ∧ L2N.Zn (.ref C) d p.2 ∧ (∃ vs, p.2.data = .fields vs) ∧ XIn F e d ∧ f e = .ok (v, ρ') ∧ flatM v = true ∧ ∀ Hk' H' u, Ex Hk Hk' → Ex Hk' H' → Ex F H' → (∀ a o, F a = some o → Hk' a = none) → RV K Hk' v u → Q u H'
structure FdE (P : Program) (w : World) (K : PySem.W.Frag) (mg : Str → Option Value) (base : Heap) (x : Str) (k : Nat) (q : Str) (ts : List Str) (f : MX → Res (MV × Env)) : Prop where
  ex : ∃ (a : Addr) (fd : FuncData), FnE P w K mg base (L2N.CX P w) k a fd [q] (spE K mg ts f) ∧ mg x = some (.ref a) ∧ PySem.W.keepIn K (.ref a) = true ∧ Binds K fd [q] []
structure KiB (K : PySem.W.Frag) (mg : Str → Option Value) (T : String) (x : Str) : Prop where
  ex : ∃ C, mg x = some (.ref C) ∧ PySem.W.kitOne K (.ref C) (.type T) = some true
end Tm
set_option Elab.async false
set_option linter.all false
set_option maxRecDepth 100000
set_option maxHeartbeats 2000000
namespace Tm
open PySem L2 PySem.Spec PyProof.Rows
open Evl (Ex ex_rd ex_l ex_t)
inductive HdE (X : Cx) (n : Str) : List ExceptHandler → List (Value × (Addr → Value → Option Addr → TS)) → Prop
  | nil : HdE X n [] []
  | cons {y : Str} {c : Value} {ts : Addr → Value → Option Addr → TS} {b₀ : Stmt} {suite : List Stmt} {np p : Pos} {hds : List ExceptHandler} {l : List (Value × (Addr → Value → Option Addr → TS))} (hc : Names X y c)
      (hsu : ∀ (a : Addr) (oe : Obj) (cls : Value) (d : Option Addr) (pn : List (Addr × Obj)), L2N.Zn cls d oe → (∃ vs, oe.data = .fields vs) → PSs (X.suite a ((a, oe) :: pn)) (b₀ :: suite) (ts a cls d)) (r : HdE X n hds l) :
      HdE X n (.ExceptHandler (some (.Name y np)) (some n) (b₀ :: suite) p :: hds) ((c, ts) :: l)
inductive HdM (X : Cx) (c : Ct) (i : Nat) (n : Str) : List ExceptHandler → List (List (Str × Bool) × (MX → MS)) → Prop
  | nil : HdM X c i n [] []
  | cons {y : Str} {b₀ : Stmt} {suite : List Stmt} {np p : Pos} {hds : List ExceptHandler} {tab : List (Str × Bool)} {mh : MX → MS} {l : List (List (Str × Bool) × (MX → MS))} (hg : Gl X y) (ht : ∀ p ∈ tab, ExT X.K X.mg y p.1 p.2) (hne : ∃ D, X.mg y = some (.ref D))
      (hsu : ∀ (a : Addr) (oe : Obj) (C : Addr) (d : Option Addr) (pn : List (Addr × Obj)) (e : MX), X.mg e.cls = some (.ref C) → (e.cls, true) ∈ tab → L2N.Zn (.ref C) d oe → (∃ vs, oe.data = .fields vs) → PSs (X.suite a ((a, oe) :: pn)) (b₀ :: suite) (rdS (cH c i a e d) (mh e)))
      (hdb : (y == ("__debug__" : Str)) = false) (r : HdM X c i n hds l) :
      HdM X c i n (.ExceptHandler (some (.Name y np)) (some n) (b₀ :: suite) p :: hds) ((tab, mh) :: l)
end Tm
set_option Elab.async false
set_option linter.all false
set_option maxRecDepth 100000
set_option maxHeartbeats 2000000
namespace Tm
open PySem L2 PySem.Spec PyProof.Rows
open Evl (Ex ex_rd ex_l ex_t)
section
variable {K : PySem.W.Frag} {F Hk H : Hp} {bp : List (Nat × Addr)} {σ : L2.St} {ρ : Env}
theorem RS.frame (S : RS K F Hk H bp σ ρ) {p : Addr} (o : HO) (h : H p = none) : RS K (upd F p o) Hk (upd H p o) bp σ ρ := by
  obtain ⟨ow, s⟩ := S.ow
  have np : ∀ i a, a ∈ ow i → a ≠ p := fun i a ha z => s.fresh h i (by rw [← z]; exact ha)
  have s2 : SL K F Hk (upd H p o) ow σ ρ := s.step (Ex.refl _) fun i a ha => ⟨upd_ne (np i a ha), (s.f i a ha).1⟩
  have hk : Hk p = none := S.ex.back h
  refine ⟨S.len, S.ex.mut hk, fun a u q => ?_, fun a u q => ?_, ⟨ow, s2.s, fun i a q => ⟨(s2.f i a q).1, by rw [upd_ne (np i a q)]; exact (s2.f i a q).2.1, (s2.f i a q).2.2⟩, s2.w, s2.d⟩, S.bor⟩
  · by_cases e : a = p
    · subst e; rw [upd_same] at q ⊢; exact q
    · rw [upd_ne e] at q ⊢; exact S.fr a u q
  · by_cases e : a = p
    · subst e; exact hk
    · rw [upd_ne e] at q; exact S.frk a u q
end
structure DPs (X : Cx) (c : Ct) (pos : Pos) (keys : List (Option Expr)) (values : List Expr) (ks : List Key) (m : MA) : Prop where
  ex : ∃ trs, PPs X pos keys values trs ∧ ∀ (σ : L2.St) (H : Hp) (Q : List (V × V) → Hp → Prop), rdA c m σ H (fun vs H' => Q ((ks.map kV).zip vs) H') → tPairs trs σ H Q
def dctIs : List (Str × MV) → List DictEntry → Bool
  | [], [] => true
  | p :: t, e :: r => e.key.isStr p.1 && flatIs p.2 e.val && dctIs t r
  | _, _ => false
structure DCst (K : PySem.W.Frag) (w : World) (mg : Str → Option Value) (x : Str) (tab : List (Str × MV)) : Prop where
  ex : ∃ a es n, mg x = some (.ref a) ∧ KDict K w a es n ∧ dctIs tab es.toList = true
end Tm
set_option Elab.async false
set_option linter.all false
set_option maxRecDepth 100000
set_option maxHeartbeats 2000000
namespace Tm
open PySem L2 PySem.Spec PyProof.Rows
open Evl (Ex ex_rd ex_l ex_t)
def bStrA : List MV → Option MV
  | [.int i] => if decide (i.natAbs.log2 < 1920) then some (.str (toString i)) else none
  | [.bl b] => some (.str (if b then "True" else "False"))
  | [.str s] => some (.str s)
  | _ => none
def rStrA : List V → Hp → VK → Prop := fun xs H Q => ((∃ i, xs = [.int i] ∧ i.natAbs.log2 < 1920 ∧ Q (.str (toString i)) H) ∨ ∃ a, xs = [.str a] ∧ Q (.str a) H) ∨ ∃ b, xs = [.bl b] ∧ Q (.str (if b then "True" else "False")) H
theorem call_str_bl {X : Cx} : CallR X (.type "str") (fun xs H Q => ∃ b, xs = [.bl b] ∧ Q (.str (if b then "True" else "False")) H) := by
  intro pins s σ H xs us Q I r h
  obtain ⟨b, rfl, q⟩ := h
  obtain ⟨u, rfl, r1⟩ := vals1 r
  cases r1
  exact PySem.P.str_of_bool ⟨.str _, H, I.tok _, ⟨_, rfl⟩, q⟩
theorem cr_strA {X : Cx} : CallR X (.type "str") rStrA := CallR.or (CallR.or call_str_int SkE.call_str_str) call_str_bl
theorem cs_strA {K : PySem.W.Frag} : CallS K bStrA rStrA := by
  intro xs z vs Hk H Q e ex r q qn
  unfold bStrA at e
  split at e
  · split at e
    · rename_i h
      cases e
      exact .inl (.inl ⟨_, rvs_int1 r, of_decide_eq_true h, q _ (RV.str.mpr rfl)⟩)
    · cases e
  · cases e
    obtain ⟨v, us, rfl, r1, r2⟩ := RVs.cons.mp r
    rw [RVs.nil.mp r2, RV.bl.mp r1]
    exact .inr ⟨_, rfl, q _ (RV.str.mpr rfl)⟩
  · cases e
    obtain ⟨v, us, rfl, r1, r2⟩ := RVs.cons.mp r
    rw [RVs.nil.mp r2, RV.str.mp r1]
    exact .inl (.inr ⟨_, rfl, q _ (RV.str.mpr rfl)⟩)
  · cases e
section
variable {X : Cx} {c : Ct} {a : MA} {e : Expr} {p pos : Pos}
theorem mb_strA (hm : X.mg "str" = none) (ha : PA X [e] (rdA c a)) (hg : Gl X "str" := by rfl) (he : starEach [e] X.env = (false, eval e X.env) :: starEach [] X.env := by rfl) (hpl : (backTo pos (starEach [] X.env)).any (·.1) = false := by rfl) : PE X (.Call (.Name "str" p) [e] [] pos) (rdE c (mBlt bStrA a)) :=
  me_ty cr_strA cs_strA hm (by decide +kernel) ha hg (he := he) (hpl := hpl)
end
@[simp] theorem bStrA_i {i : Int} : bStrA [.int i] = if decide (i.natAbs.log2 < 1920) then some (.str (toString i)) else none := nr rfl
@[simp] theorem bStrA_b {b : Bool} : bStrA [.bl b] = some (.str (if b then "True" else "False")) := nr rfl
@[simp] theorem bStrA_s {s : Str} : bStrA [.str s] = some (.str s) := nr rfl
end Tm
set_option Elab.async false
set_option linter.all false
set_option maxRecDepth 100000
set_option maxHeartbeats 2000000
namespace Tm
open PySem L2
open Evl (Ex ex_rd ex_l ex_t)
theorem OV.dow {K : PySem.W.Frag} {Hk H : Hp} {ks : List Key} {xs : List MV} {v : V} {A : List Addr} : OV K Hk H (.dow ks xs) v A ↔ ∃ p vs, v = .ref p ∧ A = [p] ∧ H p = some (.dK (ks.zip vs)) ∧ ks.length = xs.length ∧ RVs K Hk xs vs := by
  unfold OV OF; rfl
end Tm
set_option Elab.async false
set_option linter.all false
set_option maxRecDepth 100000
set_option maxHeartbeats 2000000
namespace Tm
open PySem L2 PySem.Spec PyProof.Rows
open Evl (Ex ex_rd ex_l ex_t)
inductive Tst
  | one (c : Value)
  | two (c1 c2 : Value)
inductive TstE (X : Cx) : Expr → Tst → Prop
  | one {y : Str} {c : Value} {np : Pos} (hc : Names X y c) : TstE X (.Name y np) (.one c)
  | two {y1 y2 : Str} {c1 c2 : Value} {p1 p2 tp : Pos} {k : Nat} (h1 : Names X y1 c1) (h2 : Names X y2 c2) : TstE X (.Tuple [.Name y1 p1, .Name y2 p2] k tp) (.two c1 c2)
theorem TstE.suite {X : Cx} {te : Expr} {t : Tst} (h : TstE X te t) (a : Addr) (pn : List (Addr × Obj)) : TstE (X.suite a pn) te t := by
  cases h with
  | one hc => exact .one hc
  | two h1 h2 => exact .two h1 h2
inductive HdT (X : Cx) (n : Str) : List ExceptHandler → List (Tst × (Addr → Value → Option Addr → TS)) → Prop
  | nil : HdT X n [] []
  | cons {te : Expr} {t : Tst} {ts : Addr → Value → Option Addr → TS} {b₀ : Stmt} {suite : List Stmt} {p : Pos} {hds : List ExceptHandler} {l : List (Tst × (Addr → Value → Option Addr → TS))} (hc : TstE X te t)
      (hsu : ∀ (a : Addr) (oe : Obj) (cls : Value) (d : Option Addr) (pn : List (Addr × Obj)), L2N.Zn cls d oe → (∃ vs, oe.data = .fields vs) → PSs (X.suite a ((a, oe) :: pn)) (b₀ :: suite) (ts a cls d)) (r : HdT X n hds l) :
      HdT X n (.ExceptHandler (some te) (some n) (b₀ :: suite) p :: hds) ((t, ts) :: l)
structure ExT2 (K : PySem.W.Frag) (mg : Str → Option Value) (y1 y2 : Str) (x : Str) (b : Bool) : Prop where
  ex : ∃ C D1 D2, mg x = some (.ref C) ∧ mg y1 = some (.ref D1) ∧ mg y2 = some (.ref D2) ∧ PySem.W.exmAny K (.ref C) [.ref D1, .ref D2] = some b
inductive HdMT (X : Cx) (c : Ct) (i : Nat) (n : Str) : List ExceptHandler → List (List (Str × Bool) × (MX → MS)) → Prop
  | nil : HdMT X c i n [] []
  | cons {y : Str} {b₀ : Stmt} {suite : List Stmt} {np p : Pos} {hds : List ExceptHandler} {tab : List (Str × Bool)} {mh : MX → MS} {l : List (List (Str × Bool) × (MX → MS))} (hg : Gl X y) (ht : ∀ p ∈ tab, ExT X.K X.mg y p.1 p.2) (hne : ∃ D, X.mg y = some (.ref D))
      (hsu : ∀ (a : Addr) (oe : Obj) (C : Addr) (d : Option Addr) (pn : List (Addr × Obj)) (e : MX), X.mg e.cls = some (.ref C) → (e.cls, true) ∈ tab → L2N.Zn (.ref C) d oe → (∃ vs, oe.data = .fields vs) → PSs (X.suite a ((a, oe) :: pn)) (b₀ :: suite) (rdS (cH c i a e d) (mh e)))
      (hdb : (y == ("__debug__" : Str)) = false) (r : HdMT X c i n hds l) :
      HdMT X c i n (.ExceptHandler (some (.Name y np)) (some n) (b₀ :: suite) p :: hds) ((tab, mh) :: l)
  | two {y1 y2 : Str} {b₀ : Stmt} {suite : List Stmt} {p1 p2 tp p : Pos} {k : Nat} {hds : List ExceptHandler} {tab : List (Str × Bool)} {mh : MX → MS} {l : List (List (Str × Bool) × (MX → MS))} (hg1 : Gl X y1) (hg2 : Gl X y2) (ht : ∀ p ∈ tab, ExT2 X.K X.mg y1 y2 p.1 p.2) (hne1 : ∃ D, X.mg y1 = some (.ref D)) (hne2 : ∃ D, X.mg y2 = some (.ref D))
      (hsu : ∀ (a : Addr) (oe : Obj) (C : Addr) (d : Option Addr) (pn : List (Addr × Obj)) (e : MX), X.mg e.cls = some (.ref C) → (e.cls, true) ∈ tab → L2N.Zn (.ref C) d oe → (∃ vs, oe.data = .fields vs) → PSs (X.suite a ((a, oe) :: pn)) (b₀ :: suite) (rdS (cH c i a e d) (mh e)))
      (hdb1 : (y1 == ("__debug__" : Str)) = false) (hdb2 : (y2 == ("__debug__" : Str)) = false) (r : HdMT X c i n hds l) :
      HdMT X c i n (.ExceptHandler (some (.Tuple [.Name y1 p1, .Name y2 p2] k tp)) (some n) (b₀ :: suite) p :: hds) ((tab, mh) :: l)
end Tm
set_option Elab.async false
set_option linter.all false
set_option maxRecDepth 100000
set_option maxHeartbeats 2000000
namespace Tm
open PySem L2 PySem.Spec PyProof.Rows
open Evl (Ex ex_rd ex_l ex_t)
structure FnF (P : Program) (w : World) (K : PySem.W.Frag) (mg : Str → Option Value) (base : Heap) (j n : Nat) (T : List (Str × MF)) : Prop where
  ex : ∀ x f, T.lookup x = some f → ∀ a, PySem.W.nsIn K mainGlobals x = some (some (.ref a)) → ∃ j' fd ps, j' ≤ j ∧ FnOk P w K mg base (L2N.CX P w) j' a fd ps (spF K mg n [] f) ∧ PySem.W.keepIn K (.ref a) = true ∧ Binds K fd ps []
end Tm
set_option Elab.async false
set_option linter.all false
set_option maxRecDepth 100000
set_option maxHeartbeats 2000000
namespace Tm
open PySem L2
open Evl (Ex ex_rd ex_l ex_t)
mutual
theorem nh_eq (w : World) : ∀ {x : MV} {k : NestedKey}, nkI x = some k → k.hash w = nh k
  | .int i, k, h => by unfold nkI at h; cases h; rfl
  | .tup xs, k, h => by
    unfold nkI at h
    obtain ⟨ks, h1, rfl⟩ := Option.map_eq_some_iff.mp h
    show reduceHash (Builtin.Tuple.tupleHashOf (NestedKey.hashes w ks)) = reduceHash (Builtin.Tuple.tupleHashOf (nhs ks))
    rw [nhs_eq w h1]
  | .non, k, h => by simp [nkI] at h
  | .bl _, k, h => by simp [nkI] at h
  | .str _, k, h => by simp [nkI] at h
  | .lst _, k, h => by simp [nkI] at h
  | .own _, k, h => by simp [nkI] at h
  | .raw _, k, h => by simp [nkI] at h
  | .scr _, k, h => by simp [nkI] at h
  | .fnc _, k, h => by simp [nkI] at h
  | .obj _ _, k, h => by simp [nkI] at h
  | .dct _ _, k, h => by simp [nkI] at h
  | .dow _ _, k, h => by simp [nkI] at h
  | .dot _ _, k, h => by simp [nkI] at h
theorem nhs_eq (w : World) : ∀ {xs : List MV} {ks : List NestedKey}, nkIs xs = some ks → NestedKey.hashes w ks = nhs ks
  | [], ks, h => by unfold nkIs at h; cases h; rfl
  | x :: xs, ks, h => by
    unfold nkIs at h
    split at h
    · rename_i k r h1 h2
      cases h
      show k.hash w :: NestedKey.hashes w r = nh k :: nhs r
      rw [nh_eq w h1, nhs_eq w h2]
    · cases h
end
section
variable {X : Cx} {pins : List (Addr × Obj)} {σ : St} {H Hk : Hp} {s : Shared}
mutual
theorem nkI_is (I : Inv X pins σ H s) (ex : Ex Hk H) : ∀ {x : MV} {k : NestedKey} {v : V} {u : Value}, nkI x = some k → RV X.K Hk x v → RelV v u → NestedIs s.heap k u
  | .int i, k, v, u, h, r, ru => by
    unfold nkI at h; cases h
    rw [RV.int] at r; subst r
    obtain ⟨t, rfl⟩ := (show ∃ t, u = Value.int i t from ru)
    exact .int i t
  | .tup xs, k, v, u, h, r, ru => by
    unfold nkI at h
    obtain ⟨ks, h1, rfl⟩ := Option.map_eq_some_iff.mp h
    rw [RV.tup] at r
    obtain ⟨a, vs, rfl, q, rs⟩ := r
    obtain rfl : u = Value.ref a := ru
    obtain ⟨its, vl, ⟨o, ho, hc, n, hd⟩, _⟩ := I.tuple (ex_t ex q)
    refine .tup ho hc hd ?_
    rw [List.toList_toArray]
    exact nkIs_are I ex h1 rs vl
  | .non, k, v, u, h, r, ru => by simp [nkI] at h
  | .bl _, k, v, u, h, r, ru => by simp [nkI] at h
  | .str _, k, v, u, h, r, ru => by simp [nkI] at h
  | .lst _, k, v, u, h, r, ru => by simp [nkI] at h
  | .own _, k, v, u, h, r, ru => by simp [nkI] at h
  | .raw _, k, v, u, h, r, ru => by simp [nkI] at h
  | .scr _, k, v, u, h, r, ru => by simp [nkI] at h
  | .fnc _, k, v, u, h, r, ru => by simp [nkI] at h
  | .obj _ _, k, v, u, h, r, ru => by simp [nkI] at h
  | .dct _ _, k, v, u, h, r, ru => by simp [nkI] at h
  | .dow _ _, k, v, u, h, r, ru => by simp [nkI] at h
  | .dot _ _, k, v, u, h, r, ru => by simp [nkI] at h
theorem nkIs_are (I : Inv X pins σ H s) (ex : Ex Hk H) : ∀ {xs : List MV} {ks : List NestedKey} {vs : List V} {us : List Value}, nkIs xs = some ks → RVs X.K Hk xs vs → Vals vs us → NestedAll s.heap ks us
  | [], ks, vs, us, h, r, ru => by
    unfold nkIs at h; cases h
    rw [RVs.nil] at r; subst r
    cases ru
    exact .nil
  | x :: xs, ks, vs, us, h, r, ru => by
    unfold nkIs at h
    split at h
    · rename_i k ks' h1 h2
      cases h
      rw [RVs.cons] at r
      obtain ⟨v, vr, rfl, r1, r2⟩ := r
      cases ru with
      | cons a b => exact .cons (nkI_is I ex h1 r1 a) (nkIs_are I ex h2 r2 b)
    · cases h
end
end
def NKey (X : Cx) (H : Hp) (k : NestedKey) (b : Addr) : Prop := ∀ {pins : List (Addr × Obj)} {σ : St} {s : Shared}, Inv X pins σ H s → NestedIs s.heap k (.ref b) ∧ k.depth ≤ 8 ∧ k.hash X.w = nh k
theorem NKey.of {X : Cx} {H Hk : Hp} {x : MV} {k : NestedKey} {b : Addr} (ex : Ex Hk H) (h : nkI x = some k) (hd : k.depth ≤ 8) (r : RV X.K Hk x (.ref b)) : NKey X H k b := fun I => ⟨nkI_is I ex h r rfl, hd, nh_eq X.w h⟩
def NKeys (X : Cx) (H : Hp) (l : List (NestedKey × Addr × V)) : Prop := ∀ p ∈ l, NKey X H p.1 p.2.1
theorem KN.keys {X : Cx} {H Hk : Hp} (ex : Ex Hk H) : ∀ {ks xs : List MV} {l : List (NestedKey × Addr × V)}, KN X.K Hk ks xs l → NKeys X H l
  | [], [], _, h => by cases h; intro p hp; cases hp
  | [], _ :: _, _, h => h.elim
  | _ :: _, [], _, h => h.elim
  | k :: ks, x :: xs, _, h => by
    obtain ⟨nk, a, v, r, rfl, h2, h3, h4, h5, h6⟩ := h
    intro p hp
    rcases List.mem_cons.mp hp with rfl | hp
    · exact NKey.of ex h2 h3 h4
    · exact KN.keys ex h6 p hp
section
variable {X : Cx} {pins : List (Addr × Obj)} {σ : St} {H : Hp} {s : Shared} {a : Addr} {l : List (NestedKey × Addr × V)}
def NP (l : List (NestedKey × Addr × V)) (xs : List (NestedKey × Addr × Value)) : Prop := Paired (fun (a : NestedKey × Addr × V) (b : NestedKey × Addr × Value) => a.1 = b.1 ∧ a.2.1 = b.2.1 ∧ RelV a.2.2 b.2.2) l xs
theorem NP.keys {l : List (NestedKey × Addr × V)} {xs : List (NestedKey × Addr × Value)} (r : NP l xs) : ∀ x ∈ xs, ∃ p ∈ l, p.1 = x.1 ∧ p.2.1 = x.2.1 := by
  unfold NP at r
  induction r with
  | nil => intro x hx; cases hx
  | cons h t ih =>
    rename_i a b l1 l2
    intro x hx
    rcases List.mem_cons.mp hx with rfl | hx
    · exact ⟨_, List.mem_cons_self .., h.1, h.2.1⟩
    · obtain ⟨p, hp, e⟩ := ih x hx
      exact ⟨p, List.mem_cons_of_mem _ hp, e⟩
def nAt (l : List (NestedKey × Addr × V)) (k : NestedKey) : Option V := (l.find? fun p => decide (p.1 = k)).map (·.2.2)
theorem NP.val {l : List (NestedKey × Addr × V)} {xs : List (NestedKey × Addr × Value)} (r : NP l xs) (k : NestedKey) : RelO (nAt l k) ((atKey xs k).map (·.2)) := by
  unfold NP at r
  induction r with
  | nil => exact True.intro
  | cons h t ih =>
    rename_i a b l1 l2
    by_cases e : a.1 = k
    · have e2 : b.1 = k := by rw [← h.1]; exact e
      simp only [nAt, atKey, List.find?_cons, e, e2, decide_true, Option.map_some]
      exact h.2.2
    · have e2 : ¬ b.1 = k := by rw [← h.1]; exact e
      simp only [nAt, atKey, List.find?_cons, e, e2, decide_false] at ih ⊢
      exact ih
def nPut (l : List (NestedKey × Addr × V)) (k : NestedKey) (b : Addr) (v : V) : List (NestedKey × Addr × V) :=
  if (nAt l k).isSome then l.map fun p => if p.1 = k then (p.1, p.2.1, v) else p else l ++ [(k, b, v)]
theorem NP.put {l : List (NestedKey × Addr × V)} {xs : List (NestedKey × Addr × Value)} (r : NP l xs) (k : NestedKey) (b : Addr) {v : V} {u : Value} (rv : RelV v u) : NP (nPut l k b v) (storedH xs k b u) := by
  have e := (r.val k).isSome_eq
  rw [Option.isSome_map] at e
  unfold nPut storedH
  rw [e]
  split
  · rename_i hh
    clear hh e
    unfold NP at r ⊢
    induction r with
    | nil => exact .nil
    | @cons p q ps qs h t ih =>
      refine .cons ?_ ih
      unfold putAt
      dsimp only
      by_cases z : p.1 = k
      · rw [if_pos z, if_pos (by rw [← h.1]; exact z)]
        exact ⟨h.1, h.2.1, rv⟩
      · rw [if_neg z, if_neg (by rw [← h.1]; exact z)]
        exact h
  · exact Paired.snoc r ⟨rfl, rfl, rv⟩
end
end Tm
set_option Elab.async false
set_option linter.all false
set_option maxRecDepth 100000
set_option maxHeartbeats 2000000
namespace Tm
open PySem L2
open Evl (Ex ex_rd ex_l ex_t)
theorem OV.dot {K : PySem.W.Frag} {Hk H : Hp} {ks xs : List MV} {v : V} {A : List Addr} : OV K Hk H (.dot ks xs) v A ↔ ∃ p l, v = .ref p ∧ A = [p] ∧ H p = some (.ext (nDict p l)) ∧ KN K Hk ks xs l := by
  unfold OV OF; rfl
def ndAt (ks xs : List MV) (k : NestedKey) : Option MV := ((ks.zip xs).find? fun p => decide (nkI p.1 = some k)).map (·.2)
def ndPut (ks xs : List MV) (y : MV) (k : NestedKey) (z : MV) : List MV × List MV :=
  if (ndAt ks xs k).isSome then (ks, (ks.zip xs).map fun p => if nkI p.1 = some k then z else p.2) else (ks ++ [y], xs ++ [z])
section
variable {K : PySem.W.Frag} {F Hk H : Hp} {bp : List (Nat × Addr)} {σ : L2.St} {ρ : Env}
theorem KN.len : ∀ {ks xs : List MV} {l : List (NestedKey × Addr × V)}, KN K Hk ks xs l → l.length = ks.length ∧ ks.length = xs.length
  | [], [], _, h => by cases h; exact ⟨rfl, rfl⟩
  | [], _ :: _, _, h => h.elim
  | _ :: _, [], _, h => h.elim
  | k :: ks, x :: xs, _, h => by
    obtain ⟨nk, a, v, r, rfl, h2, h3, h4, h5, h6⟩ := h
    have := KN.len h6
    simp [this.1, this.2]
theorem KN.at (k : NestedKey) : ∀ {ks xs : List MV} {l : List (NestedKey × Addr × V)}, KN K Hk ks xs l → (ndAt ks xs k = none → nAt l k = none) ∧ ∀ z, ndAt ks xs k = some z → ∃ v, nAt l k = some v ∧ RV K Hk z v
  | [], [], _, h => by cases h; exact ⟨(fun _ => rfl), (fun z e => nomatch e)⟩
  | [], _ :: _, _, h => h.elim
  | _ :: _, [], _, h => h.elim
  | j :: ks, x :: xs, _, h => by
    obtain ⟨nk, a, v, r, rfl, h2, h3, h4, h5, h6⟩ := h
    obtain ⟨i1, i2⟩ := KN.at k h6
    by_cases e : nk = k
    · subst e
      have e1 : ndAt (j :: ks) (x :: xs) nk = some x := by simp [ndAt, h2]
      have e2 : nAt ((nk, a, v) :: r) nk = some v := by simp [nAt]
      rw [e1, e2]
      exact ⟨(fun z => nomatch z), (fun z q => by cases q; exact ⟨v, rfl, h5⟩)⟩
    · have e1 : ndAt (j :: ks) (x :: xs) k = ndAt ks xs k := by
        have : ¬ some nk = some k := fun z => e (Option.some.inj z)
        simp [ndAt, h2, e]
      have e2 : nAt ((nk, a, v) :: r) k = nAt r k := by simp [nAt, e]
      rw [e1, e2]
      exact ⟨i1, i2⟩
theorem KN.snoc {y z : MV} {nk : NestedKey} {b : Addr} {v : V} (h2 : nkI y = some nk) (h3 : nk.depth ≤ 8) (h4 : RV K Hk y (.ref b)) (h5 : RV K Hk z v) : ∀ {ks xs : List MV} {l : List (NestedKey × Addr × V)}, KN K Hk ks xs l → KN K Hk (ks ++ [y]) (xs ++ [z]) (l ++ [(nk, b, v)])
  | [], [], _, h => by cases h; exact ⟨nk, b, v, [], rfl, h2, h3, h4, h5, rfl⟩
  | [], _ :: _, _, h => h.elim
  | _ :: _, [], _, h => h.elim
  | j :: ks, x :: xs, _, h => by
    obtain ⟨nk', a, v', r, rfl, g2, g3, g4, g5, g6⟩ := h
    exact ⟨nk', a, v', r ++ [(nk, b, v)], rfl, g2, g3, g4, g5, KN.snoc h2 h3 h4 h5 g6⟩
theorem KN.repl {z : MV} {k : NestedKey} {v : V} (h5 : RV K Hk z v) : ∀ {ks xs : List MV} {l : List (NestedKey × Addr × V)}, KN K Hk ks xs l → KN K Hk ks ((ks.zip xs).map fun p => if nkI p.1 = some k then z else p.2) (l.map fun p => if p.1 = k then (p.1, p.2.1, v) else p)
  | [], [], _, h => by cases h; rfl
  | [], _ :: _, _, h => h.elim
  | _ :: _, [], _, h => h.elim
  | j :: ks, x :: xs, _, h => by
    obtain ⟨nk, a, v', r, rfl, g2, g3, g4, g5, g6⟩ := h
    by_cases e : nk = k
    · subst e
      refine ⟨nk, a, v, _, ?_, g2, g3, g4, ?_, KN.repl h5 g6⟩
      · simp
      · simp [g2, h5]
    · have ne : ¬ some nk = some k := fun z => e (Option.some.inj z)
      refine ⟨nk, a, v', _, ?_, g2, g3, g4, ?_, KN.repl h5 g6⟩
      · simp [e]
      · simp only [g2, if_neg ne]
        exact g5
theorem KN.put {ks xs : List MV} {l : List (NestedKey × Addr × V)} (h : KN K Hk ks xs l) {y z : MV} {k : NestedKey} {b : Addr} {v : V} (h2 : nkI y = some k) (h3 : k.depth ≤ 8) (h4 : RV K Hk y (.ref b)) (h5 : RV K Hk z v) :
    KN K Hk (ndPut ks xs y k z).1 (ndPut ks xs y k z).2 (nPut l k b v) := by
  obtain ⟨i1, i2⟩ := KN.at k h
  unfold ndPut nPut
  cases e : ndAt ks xs k with
  | none =>
    rw [i1 e]
    exact KN.snoc h2 h3 h4 h5 h
  | some w =>
    obtain ⟨u, e1, _⟩ := i2 w e
    rw [e1]
    exact KN.repl h5 h
end
end Tm
set_option Elab.async false
set_option linter.all false
set_option maxRecDepth 100000
set_option maxHeartbeats 2000000
namespace Tm
open PySem L2
open Evl (Ex ex_rd ex_l ex_t)
abbrev LV (s : Stmt) (x : Str) : Prop := (defScope s).names.lookup x = some NameKind.local
abbrev GV (q : Str) (s : Stmt) (x : Str) : Prop := ∀ (L a : Addr) (cd : Value), (PyProof.Rows.envOfC q (defScope s) L a cd).kindOf x = some NameKind.globalImplicit
abbrev cxO (P : Program) (w : World) (K : PySem.W.Frag) (mg : Str → Option Value) (base : Heap) (ns : List Str) (q : Str) (s : Stmt) (f : Addr) (cdv : Value) (A : Around) (outer : List PySem.Env) (st : Shared) (H : Hp) (E : XK) : Cx := cxOf (L2N.CX P w) P w K mg base ns q (defScope s) f cdv A outer st H E
abbrev TkO (c : Cx) (E : XK) : Prop := L2N.Takes c (fun cls d _ H => E cls d H)
abbrev PnO (P : Program) (w : World) (c : Cx) : Prop := PassesOwn (model P w) c.A c.env c.xe
end Tm
set_option Elab.async false
set_option linter.all false
set_option maxRecDepth 100000
set_option maxHeartbeats 2000000
namespace Tm
open PySem L2
open Evl (Ex ex_rd ex_l ex_t)
def flatV : MV → Bool
  | .str _ => true
  | .int _ => true
  | .bl _ => true
  | _ => false
end Tm
set_option Elab.async false
set_option linter.all false
set_option maxRecDepth 100000
set_option maxHeartbeats 2000000
namespace Tm
open PySem L2
open Evl (Ex ex_rd ex_l ex_t)
section
open PyProof.Rows PySem.Spec
end
section
variable {X : Cx} {c : Ct} {pos pos' p p2 apos cpos : Pos} {e e2 : Expr} {es : List Expr} {a b : ME} {m : MA} {x f C : Str} {i : Nat} {fl : List Str}
inductive FJ (X : Cx) (c : Ct) : List Expr → List ME → Prop where
  | nil : FJ X c [] []
  | cons {e : Expr} {a : ME} {es : List Expr} {ms : List ME} (h : PE X e (rdE c a)) (r : FJ X c es ms) : FJ X c (e :: es) (a :: ms)
end
end Tm
set_option Elab.async false
set_option linter.all false
set_option maxRecDepth 100000
set_option maxHeartbeats 2000000
namespace Tm
open PySem L2 PySem.Spec PyProof.Rows
open Evl (Ex ex_rd ex_l ex_t)
section
variable {X : Cx} {c : Ct} {x f g m : Str} {k j : Nat}
theorem pmk_any {C : Addr} {bmB : List Value} {B newId initId : String} {e : Expr} {ta : TE} {p pos : Pos} (F : ExcBaseFacts B newId initId bmB) (q : PySem.W.excIn X.K C bmB newId = true) (gC : X.mg x = some (.ref C)) (kC : PySem.W.keepIn X.K (.ref C) = true) (r : Raises X (.ref C)) (hg : Gl X x)
    (he : PE X e ta) (hs : starEach [e] X.env = (false, eval e X.env) :: starEach [] X.env := by rfl) (hdb : (x == ("__debug__" : Str)) = false := by decide) : L2N.PMk X (.Call (.Name x p) [e] [] pos) (fun σ H Q => ta σ H fun _ H1 => Q (.ref C) none H1) := by
  intro pins s σ H Q I h
  refine wpAny_Call_Name_kw (ld_glob I hg gC (PySem.W.callWith_K (h₀ := X.base) I.ok.mod.kin kC ?_ hs (by rfl)) hdb)
  rw [hs]
  show wpAny _ _ (spliced ((false, eval e X.env) :: backTo pos (starEach [] X.env))) _ _ s
  refine Calls.spliced_cons (thn (he.run pins s σ H _ I h) fun u s1 ⟨v, H1, I1, r1, q1⟩ => Calls.spliced_nil ⟨I1.kIn, ?_⟩)
  show wpAny _ _ (call (.ref C) [u]) _ _ _
  obtain ⟨_, _, _, _, _, _, _, _, _, _, _, _, _, _, _, _, mN, hC, hN, hni, T⟩ := exc_obj I1.kIn q
  exact wpAny_call_exc_subT F T hC hN hni (fun h2 e2 hm => L2N.mk_of I1 hm r q1 (I1.hok.gone hm.new)) (by show 1 ≤ sizeLine; rw [sizeLine_eq]; omega)
def mRaise0c (x : Str) (a : ME) : MS := fun ρ => (a ρ).bind fun _ ρ1 => .exc ⟨x, []⟩ ρ1
theorem ms_raise0c {e : Expr} {a : ME} {p p3 pos : Pos} (Z : Cl0 X.K X.mg x) (hc : X.calm = true) (tk : L2N.Takes X c.W) (hg : Gl X x) (he : PE X e (rdE c a)) (hmg : c.mg = X.mg := by rfl) (hs : starEach [e] X.env = (false, eval e X.env) :: starEach [] X.env := by rfl) (hdb : (x == ("__debug__" : Str)) = false := by decide) :
    PS X (.Raise (some (.Call (.Name x p) [e] [] p3)) none pos) (rdS c (mRaise0c x a)) := by
  obtain ⟨C, h1, h2, h3, h4, h5⟩ := Z.ex
  refine PSw (L2N.ps_raise hc tk (pmk_any F.excBase_ValueError h2 h1 h3 (raises_own h4 h5) hg he hs hdb)) fun D σ H ⟨F, Hk, bp, ρ, S, h⟩ => ?_
  refine ⟨F, Hk, bp, ρ, S, ?_⟩
  have h : okS c F Hk bp D ((a ρ).bind fun _ ρ1 => .exc ⟨x, []⟩ ρ1) := h
  cases ea : a ρ with
  | stuck => rw [ea] at h; exact h
  | exc e ρ' => rw [ea] at h; exact fun Hk' H' cls d => h Hk' H' σ cls d
  | ok q =>
    obtain ⟨y, ρ1⟩ := q
    rw [ea] at h
    intro Hk1 H1 v x1 S1 r1
    exact h _ _ _ _ _ x1 S1 ⟨C, by rw [hmg]; exact h1, rfl, .inl ⟨rfl, rfl⟩⟩
end
def valIn (K : PySem.W.Frag) : MV → Value → Bool
  | .tup xs, .ref a => (match K.lookup a with | some ⟨.type "tuple", _, .seq its _, _⟩ => flatsIs xs its.toList && decide (its.size ≤ 1000) | _ => false)
  | .fnc x, .ref a => (match PySem.W.nsIn K mainGlobals x with | some (some (.ref b)) => decide (a = b) | _ => false)
  | x, v => flatIs x v
def dctIn (K : PySem.W.Frag) : List (Str × MV) → List DictEntry → Bool
  | [], [] => true
  | p :: t, e :: r => e.key.isStr p.1 && valIn K p.2 e.val && dctIn K t r
  | _, _ => false
structure DCsu (K : PySem.W.Frag) (w : World) (mg : Str → Option Value) (x : Str) (tab : List (Str × MV)) : Prop where
  ex : ∃ a es n, mg x = some (.ref a) ∧ KDict K w a es n ∧ dctIn K tab es.toList = true
end Tm
set_option Elab.async false
set_option linter.all false
set_option maxRecDepth 100000
set_option maxHeartbeats 2000000
namespace Tm
open PySem L2
section
variable {i : Nat} {r : Option MV} {ρ : Env} {a b : ME} {m : MA} {f C : Str} {neg : Bool} {ms : List ME} {acc : Str} {is : List Nat}
@[simp] theorem mRaise0c_ap {x : Str} : mRaise0c x a (r :: ρ) = (a (r :: ρ)).bind fun _ ρ1 => .exc ⟨x, []⟩ ρ1 := nr rfl
@[simp] theorem fz_dow {ks : List Key} {xs : List MV} : fz (.dow ks xs) = some (.dct ks xs) := nr rfl
@[simp] theorem fz_dct {ks : List Key} {xs : List MV} : fz (.dct ks xs) = some (.dct ks xs) := nr rfl
@[simp] theorem held_dow {ks : List Key} {xs : List MV} : (MV.dow ks xs).held = true := nr rfl
@[simp] theorem held_dct {ks : List Key} {xs : List MV} : (MV.dct ks xs).held = true := nr rfl
end
section
variable {ks js : List Key} {xs ys ps us zs : List MV} {ρ : Env}
@[simp] theorem per_dct : (MV.dct ks xs).per = true := nr rfl
end
end Tm
set_option Elab.async false
set_option linter.all false
set_option maxRecDepth 100000
set_option maxHeartbeats 2000000
namespace Tm
open PySem PySem.Spec L2
open Evl (Ex ex_rd ex_l ex_t)
section
variable {c : Ct}
def okX (c : Ct) (F Hk : Hp) (bp : List (Nat × Addr)) (σ : St) (Q : VK) (ρ0 : Env) (vs : List Nat) : Res (List MV × Env) → Prop
  | .ok (ys, ρ') => okO c F Hk bp σ Q (.ok (.own ys, backM ρ0 ρ' vs))
  | .exc x ρ' => ρ'.length = ρ0.length ∧ Wish c F Hk bp σ x (backM ρ0 ρ' vs)
  | .stuck => False
theorem okX.mono {F Hk Hk' : Hp} {bp : List (Nat × Addr)} {σ : St} {Q : VK} {ρ0 : Env} {vs : List Nat} {r : Res (List MV × Env)} (x : Ex Hk Hk') (h : okX c F Hk bp σ Q ρ0 vs r) : okX c F Hk' bp σ Q ρ0 vs r := by
  cases r with
  | ok a => exact okO.mono (r := .ok (.own a.1, backM ρ0 a.2 vs)) x h
  | exc e ρ => exact ⟨h.1, Wish.mono x h.2⟩
  | stuck => exact h
end
end Tm
set_option Elab.async false
set_option linter.all false
set_option maxRecDepth 100000
set_option maxHeartbeats 2000000
namespace Tm
open PySem L2
open Evl (Ex ex_rd ex_l ex_t)
section
variable {K : PySem.W.Frag} {Hk H : Hp}
theorem OB.ov {x : MV} {v : V} {A : List Addr} (h : OB K Hk H x v A) : OV K Hk H x v A := by
  cases x with
  | obj C fs => unfold OB at h; unfold OV; exact h
  | _ => exact (show False by unfold OB at h; exact h).elim
theorem OV.ob {C : Str} {fs : List (Str × MV)} {v : V} {A : List Addr} (h : OV K Hk H (.obj C fs) v A) : OB K Hk H (.obj C fs) v A := by unfold OV at h; unfold OB; exact h
theorem OV.ols {os : List MV} {v : V} {A : List Addr} : OV K Hk H (.ols os) v A ↔ ∃ p vs B, v = .ref p ∧ A = p :: B ∧ H p = some (.lst vs) ∧ OBs K Hk H os vs B ∧ (p :: B).Nodup := by
  unfold OV; rfl
theorem OBs.len : ∀ {os : List MV} {vs : List V} {B : List Addr}, OBs K Hk H os vs B → vs.length = os.length
  | [], vs, B, ⟨e1, _⟩ => by rw [e1]; rfl
  | _ :: os, vs, B, ⟨v, r, C, D, e1, e2, o1, o2⟩ => by rw [e1, List.length_cons, List.length_cons, o2.len]
end
end Tm
set_option Elab.async false
set_option linter.all false
set_option maxRecDepth 100000
set_option maxHeartbeats 2000000
namespace Tm
open PySem PySem.Spec PyProof.Rows L2
open Evl (Ex ex_rd ex_l ex_t)
def dictX (H : Hp) (d : Option Addr) : Hp := match d with
  | none => H
  | some dx => match H dx with
    | some (.xd fs) => upd H dx (.ext (XdAt dx fs))
    | _ => H
def keptX (H : Hp) (a C : Addr) (d : Option Addr) : Hp := upd (dictX H d) a (.ext (XAt a C d))
section
variable {P : Program} {w : World} {H : Hp} {h : Heap} {a C dx : Addr} {fs : List (Str × V)} {d : Option Addr}
theorem HOk.swapX (x : HOk P w H h) (e : H dx = some (.xd fs)) : HOk P w (upd H dx (.ext (XdAt dx fs))) h := fun b u q => by
  by_cases hb : b = dx
  · subst hb
    rw [upd_same] at q
    cases q
    obtain ⟨mA, hns, hr⟩ := x b _ e
    obtain ⟨od, es, ep, eo, c⟩ := id hns
    refine ⟨⟨mA, hns, hr⟩, ⟨od, eo⟩, ?_⟩
    rintro h1 h2 ⟨mB, ⟨od, es, ep, e1, c1⟩, r1⟩ k
    exact ⟨mB, ⟨od, es, ep, k _ e1, c1⟩, r1⟩
  · rw [upd_ne hb] at q
    refine (x b u q).stay (fun _ _ _ z => z) (fun c z => ?_) fun c xs z => ?_
    · rw [upd_ne (fun q => by subst q; rw [e] at z; cases z)]; exact z
    · rw [upd_ne (fun q => by subst q; rw [e] at z; cases z)]; exact z
theorem HOk.addX (x : HOk P w H h) (n : H a = none) {oe : Obj} {vs : Array Value} (ha : h.get? a = some oe) (hc : oe.cls = .ref C) (hd : oe.dict = d) (hv : oe.data = .fields vs) : HOk P w (upd H a (.ext (XAt a C d))) h := fun b u q => by
  by_cases hb : b = a
  · subst hb
    rw [upd_same] at q
    cases q
    refine ⟨⟨oe, vs, ha, hc, hd, hv⟩, ⟨oe, ha⟩, ?_⟩
    rintro h1 h2 ⟨o1, v1, e1, c1, d1, f1⟩ k
    exact ⟨o1, v1, k _ e1, c1, d1, f1⟩
  · rw [upd_ne hb] at q
    refine (x b u q).stay (fun _ _ _ z => z) (fun c z => ?_) fun c xs z => ?_
    · rw [upd_ne (ne_of_none z n)]; exact z
    · rw [upd_ne (ne_of_none z n)]; exact z
theorem dictX_cases (H : Hp) (d : Option Addr) : dictX H d = H ∨ ∃ dx fs, d = some dx ∧ H dx = some (.xd fs) ∧ dictX H d = upd H dx (.ext (XdAt dx fs)) := by
  unfold dictX
  split
  · exact .inl rfl
  · split
    · rename_i dx _ fs e; exact .inr ⟨_, _, rfl, e, rfl⟩
    · exact .inl rfl
theorem HOk.dictX (x : HOk P w H h) (d : Option Addr) : HOk P w (dictX H d) h := by
  rcases dictX_cases H d with e | ⟨dx, fs, rfl, e, e2⟩
  · rw [e]; exact x
  · rw [e2]; exact HOk.swapX x e
end
section
variable {X : Cx} {pins : List (Addr × Obj)} {σ : L2.St} {H : Hp} {s : Shared} {a C : Addr} {d : Option Addr}
theorem Inv.dictX (I : Inv X pins σ H s) (d : Option Addr) : Inv X pins σ (dictX H d) s := by
  rcases dictX_cases H d with e | ⟨dx, fs, rfl, e, e2⟩
  · rw [e]; exact I
  rw [e2]
  have no : ∀ b, H b = none → upd H dx (.ext (XdAt dx fs)) b = none := fun b hb => by rw [upd_ne (fun z => by subst z; rw [e] at hb; cases hb)]; exact hb
  refine ⟨I.ok, I.os, I.bare, ⟨I.base.keep, I.base.slot, fun b o h1 h2 h3 => no b (I.base.free b o h1 h2 h3), I.base.there, fun b xs q => ?_, fun b o u q => ?_, fun b ps q => ?_⟩, I.loc, I.cell, no _ I.free, fun x c q => no _ (I.freeC x c q), fun p hp => ?_, HOk.swapX I.hok e, I.len⟩
  · have := I.base.tups b xs q
    rw [upd_ne (fun z => by subst z; rw [e] at this; cases this)]; exact this
  · have := I.base.frzs b o u q
    rw [upd_ne (fun z => by subst z; rw [e] at this; cases this)]; exact this
  · obtain ⟨more, this⟩ := I.base.tbls b ps q
    exact ⟨more, by rw [upd_ne (fun z => by subst z; rw [e] at this; cases this)]; exact this⟩
  · obtain ⟨p1, p2, p3⟩ := I.pin p hp
    exact ⟨p1, no _ p2, p3⟩
theorem Inv.addX {oe : Obj} {vs : Array Value} (I : Inv X ((a, oe) :: pins) σ H s) (hc : oe.cls = .ref C) (hd : oe.dict = d) (hv : oe.data = .fields vs) (n0 : X.s_0.heap.get? a = none) (np : ∀ p ∈ X.pn ++ pins, p.1 ≠ a) : Inv X pins σ (upd H a (.ext (XAt a C d))) s := by
  obtain ⟨ha, hn, nL, nF, nC⟩ := I.pin (a, oe) (List.mem_append_right _ (List.mem_cons_self ..))
  refine ⟨I.ok, I.os, I.bare, ⟨I.base.keep, I.base.slot, fun b o h1 h2 h3 => ?_, I.base.there, fun b xs q => ?_, fun b o u q => ?_, fun b ps q => ?_⟩, I.loc, I.cell, ?_, fun x c q => ?_, fun p hp => ?_, HOk.addX I.hok hn ha hc hd hv, I.len⟩
  · rw [upd_ne (fun z => by subst z; rw [n0] at h1; cases h1)]
    exact I.base.free b o h1 h2 h3
  · have := I.base.tups b xs q
    rw [upd_ne (ne_of_none this hn)]; exact this
  · have := I.base.frzs b o u q
    rw [upd_ne (ne_of_none this hn)]; exact this
  · obtain ⟨more, this⟩ := I.base.tbls b ps q
    exact ⟨more, by rw [upd_ne (ne_of_none this hn)]; exact this⟩
  · rw [upd_ne (Ne.symm nL)]; exact I.free
  · obtain ⟨v, hcell⟩ := I.cell x c q
    rw [upd_ne (fun z => by
      subst z
      obtain ⟨o, e1, e2⟩ := hcell
      have ha' : s.heap.get? c = some oe := ha
      rw [ha'] at e1
      cases e1
      exact nC _ e2)]
    exact I.freeC x c q
  · obtain ⟨p1, p2, p3⟩ := I.pin p (by
      rcases List.mem_append.mp hp with h | h
      · exact List.mem_append_left _ h
      · exact List.mem_append_right _ (List.mem_cons_of_mem _ h))
    exact ⟨p1, by rw [upd_ne (np p hp)]; exact p2, p3⟩
theorem Inv.unsuiteK {q : Addr × Obj} {pn' : List (Addr × Obj)} (I : Inv (X.suite a (q :: (X.pn ++ pins))) pn' σ H s) (ok : X.Ok) : Inv X (q :: pins) σ H s :=
  ⟨ok, I.os, I.bare, I.base, I.loc, I.cell, I.free, I.freeC, fun p hp => I.pin p (List.mem_append_left _ (by
    rcases List.mem_append.mp hp with h | h
    · exact List.mem_cons_of_mem _ (List.mem_append_left _ h)
    · rcases List.mem_cons.mp h with rfl | h
      · exact List.mem_cons_self ..
      · exact List.mem_cons_of_mem _ (List.mem_append_right _ h))), I.hok, I.len⟩
end
def wAsK (K : PySem.W.Frag) (c : Value) (i j : Nat) (Wout : WX) (D : Ends) : WX := fun cls d σ H =>
  ∃ (b : Bool) (C : Addr), cls = .ref C ∧ PySem.W.exmOne K cls c = some b ∧ (b = true → ∀ a, H a = none → D.nx ((σ.set i none).set j (some (.ref a))) (keptX H a C d)) ∧ (b = false → Wout cls d σ H)
section
variable {X : Cx} {y n : Str} {c : Value} {i j : Nat} {body : List Stmt} {st : Stmt} {np pos pos' : Pos} {tb : WX → TS} {Wout : WX}
theorem ps_try_keep (hs : X.stack = X.env :: X.outer) (hf : X.env.frame = some X.env.locals) (hN : X.N.Nodup) (hi : X.N[i]? = some n) (hij : i ≠ j) (hln : X.env.kindOf n = some .local) (hc : Names X y c) (hex : X.ex = []) (tk : L2N.Takes X Wout)
    (hb : ∀ (W : WX) (pn : List (Addr × Obj)) (xe : Value → Shared → Prop), L2N.Takes (X.tr pn xe) W → PassesOwn (model X.prog X.w) X.A X.env xe → PSs (X.tr pn xe) body (tb W))
    (hsu : ∀ (a : Addr) (oe : Obj) (pn : List (Addr × Obj)), PSs (X.suite a ((a, oe) :: pn)) [st] (fun D σ H => σ[i]? = some (some (.ref a)) ∧ D.nx (σ.set j (some (.ref a))) H)) :
    PS X (.Try body [.ExceptHandler (some (.Name y np)) (some n) [st] pos'] [] [] pos) (fun D σ H => tb (wAsK X.K c i j Wout D) D σ H) := by
  refine ⟨fun pins s σ H D I h => ?_⟩
  have ok := I.ok
  have hfr : X.A.frames = some (X.env :: X.outer) := by rw [ok.frames, hs]
  have hloc : Loc X.env.scope n := .inl hln
  refine wpAny_Try_except ?_
  refine wpAny_mono ((hb (wAsK X.K c i j Wout D) (X.pn ++ pins) (fun e s₁ => wpAny (model X.prog X.w) X.A (noteFrame e X.env) (fun _ s₂ => wpAny (model X.prog X.w) X.A (setFlight e none) (fun _ s₃ =>
    wpAny (model X.prog X.w) X.A (handleBy e X.env [.ExceptHandler (some (.Name y np)) (some n) [st] pos']) (SP X pins D) X.xe s₃) X.xe s₂) X.xe s₁) (fun u s' xx => ?_) PassesOwn.looking).run [] s σ H D (I.toTry _) h) (fun f s1 hsp => ?_) (fun e s1 he => he)
  · obtain ⟨a, B, sI, pins', σ', H', cls, d, rfl, J', nb, up, sky, na, os, ag, b, C, hcls, hb1, hyes, hno⟩ := xx
    have J : Inv X pins σ' H' sI := J'.ofTry ok
    have sky' : Sky B (X.env :: X.outer) a (L2N.Zn cls d) X.env.locals s'.heap := by rw [← hs]; exact sky
    show wpAny (model X.prog X.w) X.A (noteFrame (.ref a) X.env) _ _ _
    refine L2N.Sky.land L2N.Zn.steady hfr hf sky' fun h3 fl3 up3 => ?_
    have J3 : Inv X pins σ' H' { s' with heap := h3 } := J.landed nb fl3.1 (up.trans up3) os ag
    obtain ⟨oe3, vs3, he3, hz3, hd3⟩ := fl3.there
    have notFr : ∀ {h : Heap} {o : Obj} {vs : Array Value}, h.FunFrames B (X.env :: X.outer) → h.get? a = some o → o.data = .fields vs → a ∉ frs (X.env :: X.outer) := fun {h o vs} ff e dd hm => by
      obtain ⟨_, o', e', hnf⟩ := ff.mem hm
      rw [e] at e'; cases e'
      exact hnf _ dd
    have nfr := notFr fl3.2.2.1 he3 hd3
    have nL : a ≠ X.env.locals := fun z => nfr (List.mem_filterMap.mpr ⟨X.env, List.mem_cons_self, by rw [hf, z]⟩)
    have nF : a ∉ X.fs := fun hm => by
      obtain ⟨e, he, q⟩ := List.mem_filterMap.mp hm
      exact nfr (List.mem_filterMap.mpr ⟨e, List.mem_cons_of_mem _ he, q⟩)
    have nB : B.get? a = none := fl3.2.1
    have nfs : a ∉ frs X.stack := by rw [hs]; exact nfr
    have nI : sI.heap.get? a = none := by
      cases e : sI.heap.get? a with
      | none => rfl
      | some o => have := nb a o e nfs; rw [nB] at this; cases this
    have n0 : X.s_0.heap.get? a = none := by
      cases e : X.s_0.heap.get? a with
      | none => rfl
      | some o =>
        obtain ⟨o', e'⟩ := J.base.there a o e (by rw [hex]; exact fun z => nomatch z)
        rw [nI] at e'; cases e'
    have npn : ∀ p ∈ X.pn ++ pins, p.1 ≠ a := fun p hp z => by
      have := (J.pin p hp).1
      rw [z, nI] at this; cases this
    have S3 := J3.suite he3 hd3 na nL nF
    refine wpAny_handleBy_cons (codeAny_handlers_test ?_) (by intro q; cases q)
    have LT : PySem.W.Looks (model X.prog X.w) h3 (typeOf (.ref a)) cls := fun A Q E s k q => wpAny_typeOf_ref (k _ _ he3) (by rw [hz3.1]; exact q)
    have LM := PySem.W.exm_one (M := model X.prog X.w) (J3.kIn) LT hb1
    have test : ∀ {Q : Value → Shared → Prop} {E : Value → Shared → Prop}, Q c { s' with heap := h3 } → wpAny (model X.prog X.w) (X.A.mark (some (.ref a))) (eval (.Name y np) X.env) Q E { s' with heap := h3 } := fun {Q E} q => by
      obtain ⟨hg, hdbg, hm | ⟨hm, hv, hnn⟩⟩ := hc
      · exact ld_glob (X := X.suite a ((a, oe3) :: (X.pn ++ pins))) S3 hg hm q hdbg
      · exact ld_blt (X := X.suite a ((a, oe3) :: (X.pn ++ pins))) S3 hg hm hv q hnn hdbg
    refine test (LM.here ?_)
    cases b with
    | true =>
      refine codeAny_handlers_suite_as ?_
      refine HandSPX.lands_againZ fl3 fun h4 fl4 up4 => ?_
      have J4 : Inv X pins σ' H' { s' with heap := h4 } := J.landed nb fl4.1 ((up.trans up3).trans up4) os ag
      obtain ⟨oe4, vs4, he4, hz4, hd4⟩ := fl4.there
      have S4 := J4.suite he4 hd4 na nL nF
      have hlen : i < σ'.length := by
        have := J.len
        rw [this]
        exact (List.getElem?_eq_some_iff.mp hi).1
      refine store_ok (X := X.suite a ((a, oe4) :: (X.pn ++ pins))) (v := .ref a) S4 hN hi hloc rfl (fun s5 S5 => ?_) (.inr hln)
      refine wpAny_mono ((hsu a oe4 (X.pn ++ pins)).run [] s5 _ H' { nx := fun σ6 H6 => D.nx (σ6.set i none) (keptX H6 a C d), rt := fun _ _ => False, bk := fun _ _ => False, ct := fun _ _ => False } S5 ⟨List.getElem?_set_self hlen, ?_⟩) (fun f s6 hsp => ?_) (fun _ _ z => False.elim z)
      · show D.nx (((σ'.set i (some (.ref a))).set j (some (.ref a))).set i none) (keptX H' a C d)
        have : ((σ'.set i (some (V.ref a))).set j (some (.ref a))).set i none = (σ'.set i none).set j (some (.ref a)) := by
          rw [List.set_comm _ _ (Ne.symm hij), List.set_set]
        rw [this]
        exact hyes rfl a na
      have end_ : ∀ {σ6 : L2.St} {H6 : Hp} {Q : Shared → Prop}, Inv (X.suite a ((a, oe4) :: (X.pn ++ pins))) [] σ6 H6 s6 → (∀ s7, Inv X pins (σ6.set i none) (keptX H6 a C d) s7 → Q s7) →
          wpAny (model X.prog X.w) X.A (do bindName X.env n .none; unbindBehindTheSuite X.env n pos') (fun _ s7 => Q s7) X.xe s6 := fun {σ6 H6 Q} S6 hq => gone_ok (Tm.Inv.unsuiteK S6 ok) hN hi hln fun s7 J7 =>
            hq s7 (Tm.Inv.addX (Tm.Inv.dictX J7 d) (hz4.1.trans hcls) hz4.2.1 hd4 n0 npn)
      cases f with
      | next =>
        obtain ⟨σ6, H6, S6, q6⟩ := hsp
        exact end_ S6 fun s7 J7 => ⟨_, _, J7, q6⟩
      | brk =>
        obtain ⟨σ6, H6, S6, q6⟩ := hsp
        exact q6.elim
      | cont =>
        obtain ⟨σ6, H6, S6, q6⟩ := hsp
        exact q6.elim
      | ret u =>
        obtain ⟨v6, σ6, H6, S6, r6, q6⟩ := hsp
        exact q6.elim
    | false =>
      show wpAny _ X.A (handleBy (.ref a) X.env []) _ _ _
      refine wpAny_handleBy_nil ?_
      obtain ⟨k1, k2, k3, oe, vs, T, oT, ts', he, hz, hd, h1, hr⟩ := id fl3
      unfold PySem.passOn
      refine wpAny_bind (wpAny_field he hd h1 ?_)
      rw [if_neg (show ¬ ((Value.ref T == Value.none) = true) from by simp)]
      have fin : wpAny (model X.prog X.w) X.A (setFlight (.ref a) X.env.frame) (fun _ s4 => wpAny (model X.prog X.w) X.A (throw (.ref a) : Sem Flow) (SP X pins D) X.xe s4) X.xe { s' with heap := h3 } := by
        rw [hf]
        refine HandSPX.setFlight_upZ fl3 fun h4 hh4 up4 => wpAny_throw (tk _ _ ?_)
        exact ⟨a, B, sI, pins, σ', H', cls, d, rfl, J, nb, (up.trans up3).trans up4, .inr (.inr (by rw [hs]; exact hh4)), na, os, ag, hno rfl⟩
      first
        | exact wpAny_bind (wpAny_pure (wpAny_bind fin))
        | exact wpAny_bind fin
  · cases f with
    | next =>
      obtain ⟨σ', H', J', q⟩ := hsp
      exact wpAny_execs_nil ⟨σ', H', J'.ofTry ok, q⟩
    | brk =>
      obtain ⟨σ', H', J', q⟩ := hsp
      exact ⟨σ', H', J'.ofTry ok, q⟩
    | cont =>
      obtain ⟨σ', H', J', q⟩ := hsp
      exact ⟨σ', H', J'.ofTry ok, q⟩
    | ret u =>
      obtain ⟨v, σ', H', J', r, q⟩ := hsp
      exact ⟨v, σ', H', J'.ofTry ok, r, q⟩
end
def flatO : Option MV → Bool
  | none => true
  | some x => flatM x
def mTryV (i j : Nat) (tab : List (Str × Bool)) (mb : MS) : MS := fun ρ => if ρ.all flatO then (match mb ρ with
  | .ok (.nx, ρ1) => if ρ1.all flatO then .ok (.nx, ρ1) else .stuck
  | .exc e ρ1 => if ρ1.all flatO then (match tab.lookup e.cls with
    | some true => if decide (i < ρ1.length) && decide (j < ρ1.length) && e.fs.all (fun p => flatM p.2) then .ok (.nx, (ρ1.set i none).set j (some (.exn e.cls e.fs))) else .stuck
    | _ => .stuck) else .stuck
  | _ => .stuck) else .stuck
def un (F H : Hp) : Hp := fun a => match F a with
  | some o => some o
  | none => H a
theorem un_l {F H : Hp} {a : Addr} {o : HO} (h : F a = some o) : un F H a = some o := by unfold un; rw [h]
theorem un_r {F H : Hp} {a : Addr} (h : F a = none) : un F H a = H a := by unfold un; rw [h]
theorem flatM_per {x : MV} (h : flatM x = true) : x.per = true := by cases x <;> first | rfl | (simp [flatM] at h; done)
theorem rv_plV {K : PySem.W.Frag} {H : Hp} {x : MV} {v : V} (f : flatM x = true) (h : RV K H x v) : v = plV x := by
  cases x <;> first | (simp [flatM] at f; done) | (unfold RV at h; exact h)
theorem xfs_plV {K : PySem.W.Frag} {H : Hp} : ∀ {fs : List (Str × MV)} {vs : List (Str × V)}, fs.all (fun p => flatM p.2) = true → XFs K H fs vs → vs = fs.map fun p => (p.1, plV p.2)
  | [], _, _, h => h
  | (n, x) :: fs, vs, f, h => by
    obtain ⟨v, r, rfl, e2, e3⟩ := h
    simp only [List.all_cons, Bool.and_eq_true] at f
    rw [rv_plV f.1 e2, xfs_plV f.2 e3]
    rfl
section
variable {K : PySem.W.Frag} {F Hk Hk' H H' : Hp} {bp : List (Nat × Addr)} {σ σ' : L2.St} {ρ ρ1 : Env}
theorem flat_at {ρ : Env} (f : ρ.all flatO = true) {i : Nat} {x : MV} (h : ρ[i]? = some (some x)) : flatM x = true := by
  have := List.all_eq_true.mp f _ (List.mem_of_getElem? h)
  exact this
theorem RS.flatten (S : RS K F Hk H bp σ ρ) (f : ρ.all flatO = true) {F2 Hk2 : Hp} (e1 : Ex Hk2 H) (e2 : Ex F2 H) (e3 : ∀ a o, F2 a = some o → Hk2 a = none) : RS K F2 Hk2 H bp σ ρ := by
  refine ⟨S.len, e1, e2, e3, ⟨fun _ => [], ⟨fun i x h => ?_, fun i a h => (by cases h), fun i h => (h rfl).elim, fun i j a _ h => (by cases h)⟩⟩, S.bor⟩
  have fx := flat_at f h
  obtain ⟨v, ev, rv⟩ := S.get h (flatM_per fx)
  exact ⟨v, ev, (rv.flat fx).ov⟩
theorem RS.into (S : RS K F Hk H bp σ ρ) (f : ρ.all flatO = true) : RS K (un F Hk) (fun _ => none) H bp σ ρ := by
  refine S.flatten f (fun _ _ h => nomatch h) (fun a o h => ?_) (fun _ _ _ => rfl)
  unfold un at h
  split at h
  · rename_i u e; cases h; exact S.fr a _ e
  · exact S.ex a o h
end
section
variable {X : Cx} {c : Ct} {x y n : Str} {i j : Nat} {body : List Stmt} {np pos pos' px pn2 pos2 : Pos} {tab : List (Str × Bool)} {mb : MS}
theorem ms_tryV (hs : X.stack = X.env :: X.outer) (hf : X.env.frame = some X.env.locals) (hN : X.N.Nodup) (hi : X.N[i]? = some n) (hj : X.N[j]? = some x) (hln : X.env.kindOf n = some .local) (hlx : Loc X.env.scope x) (hvn : Vis X.env.scope n) (hg : Gl X y) (hex : X.ex = []) (tk : L2N.Takes X c.W) (ht : ∀ p ∈ tab, ExT X.K X.mg y p.1 p.2) (hne : ∃ D, X.mg y = some (.ref D))
    (hG : ∀ p ∈ tab, FnG X.K X.mg p.1)
    (hb : ∀ (W : WX) (pn : List (Addr × Obj)) (xe : Value → Shared → Prop), L2N.Takes (X.tr pn xe) W → PassesOwn (model X.prog X.w) X.A X.env xe → PSs (X.tr pn xe) body (rdS ⟨c.K, c.mg, W, c.bs, c.J, c.Jm⟩ mb))
    (hij : i ≠ j := by decide) (hbi : c.bs = [] := by rfl) (hK : c.K = X.K := by rfl) (hmg : c.mg = X.mg := by rfl) (hdb : (y == ("__debug__" : Str)) = false := by decide)
    (hd : (n == ("__debug__" : Str)) = false := by decide) (hcd : (n == ("__classdict__" : Str)) = false := by decide)
    (hsw : ∀ a pn, swapsWithSole [.Name x px] (.Name n pn2) pos2.line (X.suite a pn).env = pure false := by intro _ _; rfl)
    (hww : ∀ a pn, swappedStores [.Name x px] (.Name n pn2) (X.suite a pn).env = pure none := by intro _ _; rfl)
    (hfn : X.fn x = true ∨ X.env.scope.names.lookup x = some .local := by first | exact .inl rfl | exact .inr rfl | assumption) :
    PS X (.Try body [.ExceptHandler (some (.Name y np)) (some n) [.Assign [.Name x px] (.Name n pn2) pos2] pos'] [] [] pos) (rdS c (mTryV i j tab mb)) := by
  obtain ⟨Dy, hDy⟩ := hne
  have z := ps_try_keep (y := y) (c := .ref Dy) (i := i) (j := j) (np := np) (pos := pos) (pos' := pos') (st := .Assign [.Name x px] (.Name n pn2) pos2) (tb := fun W => rdS ⟨c.K, c.mg, W, c.bs, c.J, c.Jm⟩ mb) (Wout := c.W) hs hf hN hi hij hln ⟨hg, hdb, .inl hDy⟩ hex tk hb
    (fun a oe pn => PSsw (pss_one (ps_asg (X := X.suite a ((a, oe) :: pn)) (pe_var (i := i) hi hvn hd hcd) (pg_name (i := j) hN hj hlx hfn) (hsw _ _) (hww _ _))) fun D σ H ⟨h1, h2⟩ => ⟨.ref a, h1, h2⟩)
  refine PSw z fun D σ H h => ?_
  obtain ⟨F, Hk, bp, ρ, S, h⟩ := h
  unfold mTryV at h
  split at h
  rotate_left
  · exact h.elim
  rename_i f0
  have bp0 : bp = [] := by
    have := S.2.1
    rw [hbi] at this
    exact List.map_eq_nil_iff.mp this
  have xF : Ex F (un F Hk) := fun a o e => un_l e
  refine ⟨un F Hk, fun _ => none, bp, ρ, ⟨S.1.into f0, S.2.1, c.Jm _ _ _ xF S.2.2⟩, ?_⟩
  cases em : mb ρ with
  | stuck => rw [em] at h; exact h.elim
  | ok r =>
    rw [em] at h
    obtain ⟨f, ρ1⟩ := r
    cases f with
    | nx =>
      simp only at h
      split at h
      · rename_i f1
        intro Hk' H' σ' x1 S1
        refine h Hk H' σ' (Ex.refl _) (S1.flatten f1 (fun a o e => S1.fr a o ?_) (fun a o e => S1.fr a o (un_l e)) S.1.frk)
        rw [un_r]
        · exact e
        · cases e0 : F a with
          | none => rfl
          | some u => have := S.1.frk a u e0; rw [e] at this; cases this
      · exact h.elim
    | br => exact h.elim
    | ct => exact h.elim
    | rt v => exact h.elim
  | exc e ρ1 =>
    rw [em] at h
    simp only at h
    split at h
    rotate_left
    · exact h.elim
    rename_i f1
    intro Hk' H' σ' cls d x1 S1 er
    obtain ⟨C, g1, g2, g3⟩ := er
    subst g2
    have g1' : X.mg e.cls = some (.ref C) := by rw [← hmg]; exact g1
    split at h
    rotate_left
    · exact h.elim
    rename_i el
    obtain ⟨C', D', k1, k2, k3⟩ := (ht _ (lookup_mem el)).ex
    rw [g1'] at k1
    cases k1
    rw [hDy] at k2
    cases k2
    refine ⟨true, C, rfl, k3, fun _ a ha => ?_, fun q => nomatch q⟩
    split at h
    rotate_left
    · exact h.elim
    rename_i hc
    simp only [Bool.and_eq_true, decide_eq_true_eq] at hc
    obtain ⟨C2, m2, ns2⟩ := (hG _ (lookup_mem el)).ex
    rw [g1'] at m2
    cases m2
    have nF : ∀ b o, un F Hk b = some o → Hk' b = none := S1.frk
    have nHk : ∀ b, (∃ o, Hk' b = some o) → Hk b = none := fun b ⟨o, e1⟩ => by
      cases e0 : Hk b with
      | none => rfl
      | some u =>
        have fb : F b = none := by
          cases e2 : F b with
          | none => rfl
          | some w => have := S.1.frk b w e2; rw [e0] at this; cases this
        have := nF b u (by rw [un_r fb]; exact e0)
        rw [e1] at this; cases this
    have aF : un F Hk a = none := by
      cases e0 : un F Hk a with
      | none => rfl
      | some u => have := S1.fr a u e0; rw [ha] at this; cases this
    -- the known part behind the statement
    have xd : ∀ b o, un F Hk b = some o → keptX H' a C d b = some o := fun b o e0 => by
      unfold keptX
      have nb : b ≠ a := fun q => by subst q; rw [aF] at e0; cases e0
      rw [upd_ne nb]
      rcases dictX_cases H' d with q | ⟨dx, fs, rfl, q1, q2⟩
      · rw [q]; exact S1.fr b o e0
      · rw [q2]
        rcases g3 with ⟨_, g3⟩ | ⟨dx2, vfs, q3, q4, q5⟩
        · cases g3
        · cases q3
          rw [upd_ne (fun q => by subst q; have := nF b o e0; rw [q4] at this; cases this)]
          exact S1.fr b o e0
    obtain ⟨Hn, hn1, hn2, hn3⟩ : ∃ Hn : Hp, Ex Hk Hn ∧ Ex Hn (keptX H' a C d) ∧ (∀ b o, F b = some o → Hn b = none) ∧ ExnAt c.K Hn e.cls e.fs (.ref a) := by
      have ka : keptX H' a C d a = some (.ext (XAt a C d)) := upd_same
      have fa : F a = none := by
        cases e0 : F a with
        | none => rfl
        | some u => rw [un_l e0] at aF; cases aF
      have hka : Hk a = none := by rw [un_r fa] at aF; exact aF
      rcases g3 with ⟨q1, q2⟩ | ⟨dx, vfs, q3, q4, q5⟩
      · subst q2
        refine ⟨upd Hk a (.ext (XAt a C none)), Ex.new hka, fun b o e0 => ?_, fun b o e0 => ?_, ⟨a, C, none, rfl, by rw [hK]; exact ns2, upd_same, .inl ⟨q1, rfl⟩⟩⟩
        · by_cases eb : b = a
          · subst eb; rw [upd_same] at e0; cases e0; exact ka
          · rw [upd_ne eb] at e0
            refine xd b o ?_
            rw [un_r]
            · exact e0
            · cases e1 : F b with
              | none => rfl
              | some u => have := S.1.frk b u e1; rw [e0] at this; cases this
        · rw [upd_ne (fun q => by subst q; rw [fa] at e0; cases e0)]
          exact S.1.frk b o e0
      · subst q3
        have dH : H' dx = some (.xd vfs) := S1.ex _ _ q4
        have ne : dx ≠ a := fun q => by subst q; rw [ha] at dH; cases dH
        have hkd : Hk dx = none := nHk dx ⟨_, q4⟩
        have fd : F dx = none := by
          cases e0 : F dx with
          | none => rfl
          | some u => have := nF dx u (un_l e0); rw [q4] at this; cases this
        have kd : keptX H' a C (some dx) dx = some (.ext (XdAt dx vfs)) := by
          unfold keptX
          rw [upd_ne ne]
          unfold dictX
          simp only [dH]
          exact upd_same
        have ev := xfs_plV hc.2 q5
        have n2 : upd Hk dx (.ext (XdAt dx vfs)) a = none := by rw [upd_ne (Ne.symm ne)]; exact hka
        refine ⟨upd (upd Hk dx (.ext (XdAt dx vfs))) a (.ext (XAt a C (some dx))), (Ex.new hkd).trans (Ex.new n2), fun b o e0 => ?_, fun b o e0 => ?_, ⟨a, C, some dx, rfl, by rw [hK]; exact ns2, upd_same, .inr ⟨dx, rfl, ?_⟩⟩⟩
        · by_cases eb : b = a
          · subst eb; rw [upd_same] at e0; cases e0; exact ka
          · rw [upd_ne eb] at e0
            by_cases ed : b = dx
            · subst ed; rw [upd_same] at e0; cases e0; exact kd
            · rw [upd_ne ed] at e0
              refine xd b o ?_
              rw [un_r]
              · exact e0
              · cases e1 : F b with
                | none => rfl
                | some u => have := S.1.frk b u e1; rw [e0] at this; cases this
        · rw [upd_ne (fun q => by subst q; have := S1.fr b o (un_l e0); rw [ha] at this; cases this), upd_ne (fun q => by subst q; rw [fd] at e0; cases e0)]
          exact S.1.frk b o e0
        · rw [upd_ne ne, upd_same, ev]
    refine h Hn (keptX H' a C d) _ hn1 ?_
    subst bp0
    have S2 : RS c.K F Hn (keptX H' a C d) [] σ' ρ1 := by
      refine ⟨S1.len, hn2, fun b o e0 => xd b o (un_l e0), hn3.1, ⟨fun _ => [], ⟨fun k x h => ?_, fun k b h => (by cases h), fun k h => (h rfl).elim, fun k l b _ h => (by cases h)⟩⟩, fun q hq => by cases hq⟩
      have fx := flat_at f1 h
      obtain ⟨v, ev, rv⟩ := S1.get h (flatM_per fx)
      exact ⟨v, ev, (rv.flat fx).ov⟩
    have S3 := ((S2.hold (i := i) (a := a) hc.1.1 (fun q hq => by cases hq)).unhold (fun q hq => by cases hq))
    have e1 : (σ'.set i (some (V.ref a))).set i none = σ'.set i none := List.set_set ..
    have e2 : (ρ1.set i none).set i none = ρ1.set i none := List.set_set ..
    rw [e1, e2] at S3
    exact S3.set (by rw [List.length_set]; exact hc.1.2) (RV.exn.mpr hn3.2) (fun q hq => by cases hq)
end
def rIsK (K : PySem.W.Frag) : List V → Hp → VK → Prop := fun xs H Q => ∃ (a D : Addr) (d : Option Addr) (c : V) (cv : Value) (b : Bool), xs = [.ref a, c] ∧ ExcC K D ∧ H a = some (.ext (XAt a D d)) ∧
  (d = none ∨ ∃ dd fs, d = some dd ∧ H dd = some (.ext (XdAt dd fs))) ∧ (∀ u, RelV c u → u = cv) ∧ PySem.W.kitOne K (.ref D) cv = some b ∧ Q (.bl b) H
theorem call_isK {X : Cx} : CallR X (.builtin "isinstance") (rIsK X.K) := by
  intro pins s σ H xs us Q I r h
  obtain ⟨a, D, d, c, cv, b, rfl, C, ha, hd, hcv, e, q⟩ := h
  cases r with
  | cons rx rr =>
    cases rr with
    | cons rt rr =>
      cases rr
      cases rx
      have ec := hcv _ rt
      subst ec
      obtain ⟨⟨oe, vs, hget, z1, z2, hv⟩, _⟩ := I.hok a _ ha
      have J : ∃ od, PySem.W.InstAt s.heap a oe D od := by
        rcases hd with hd | ⟨dd, fs, hd, hh⟩
        · exact ⟨none, hget, z1, by unfold PySem.W.notCls; rw [hv] <;> rfl, by rw [z2, hd]; trivial⟩
        · obtain ⟨⟨mA, hns, _⟩, _⟩ := I.hok dd _ hh
          obtain ⟨od, ho, _⟩ := lookIn_ns hns
          exact ⟨some od, hget, z1, by unfold PySem.W.notCls; rw [hv] <;> rfl, by rw [z2, hd]; exact ho⟩
      obtain ⟨od, J⟩ := J
      exact PySem.W.kia_one (kitx_any C) I.kIn J e (fun z => nomatch z) fun tk => ⟨.bl b, H, I.kept (t' := tk) fun _ _ z => z, rfl, q⟩
structure XvK (K : PySem.W.Frag) (cv : Value) (x : Str) (b : Bool) : Prop where
  ex : ∃ D, PySem.W.nsIn K mainGlobals x = some (some (.ref D)) ∧ ExcC K D ∧ PySem.W.kitOne K (.ref D) cv = some b
theorem xv_k {K : PySem.W.Frag} {mg : Str → Option Value} {fs : List Str} {x y : Str} {b : Bool} {Dy : Addr} (hy : mg y = some (.ref Dy)) (g : FnG K mg x) (f : XcF K mg fs x) (k : KiT K mg y x b) : XvK K (.ref Dy) x b := by
  obtain ⟨a, h1, h2⟩ := g.ex
  obtain ⟨C, h3, h4⟩ := f.ex
  obtain ⟨C', D', h5, h6, h7⟩ := k.ex
  rw [h1] at h3 h5
  cases h3
  cases h5
  rw [hy] at h6
  cases h6
  exact ⟨a, h2, (xcB_ok h4).xc, h7⟩
theorem xv_b {K : PySem.W.Frag} {mg : Str → Option Value} {fs : List Str} {x : Str} {T : String} (g : FnG K mg x) (f : XcF K mg fs x) (k : KiB K mg T x) : XvK K (.type T) x true := by
  obtain ⟨a, h1, h2⟩ := g.ex
  obtain ⟨C, h3, h4⟩ := f.ex
  obtain ⟨C', h5, h7⟩ := k.ex
  rw [h1] at h3 h5
  cases h3
  cases h5
  exact ⟨a, h2, (xcB_ok h4).xc, h7⟩
def exnAt (ρ : Env) (i : Nat) : Option (Str × List (Str × MV)) := match ρ[i]? with
  | some (some (.exn C fs)) => some (C, fs)
  | _ => none
theorem exn_at {ρ : Env} {i : Nat} {C : Str} {fs : List (Str × MV)} (h : exnAt ρ i = some (C, fs)) : ρ[i]? = some (some (.exn C fs)) := by
  unfold exnAt at h
  split at h
  · rename_i e; cases h; exact e
  · cases h
def mIsV (i : Nat) (tab : List (Str × Bool)) : ME := fun ρ => match exnAt ρ i with
  | some q => (match tab.lookup q.1 with | some b => .ok (.bl b, ρ) | none => .stuck)
  | none => .stuck
def mXv (i : Nat) (ts : List Str) (f : Str) : ME := fun ρ => match exnAt ρ i with
  | some q => if ts.contains q.1 then (match q.2.lookup f with | some x => if flatM x then .ok (x, ρ) else .stuck | none => .stuck) else .stuck
  | none => .stuck
theorem plV_rv {K : PySem.W.Frag} {H : Hp} {x : MV} (f : flatM x = true) : RV K H x (plV x) := by
  cases x <;> first | (simp [flatM] at f; done) | (unfold RV; rfl)
theorem look_plV {f : Str} : ∀ {fs : List (Str × MV)}, (fs.map fun p => (p.1, plV p.2)).lookup f = (fs.lookup f).map plV
  | [] => rfl
  | (n, x) :: fs => by
    rw [List.map_cons, List.lookup_cons, List.lookup_cons]
    cases f == n with
    | true => rfl
    | false => exact look_plV
def tXv (f : Str) (te : TE) (K : PySem.W.Frag) : TE := fun σ H Q => te σ H fun x H1 => ∃ (a C dd : Addr) (fs : List (Str × V)) (v : V), x = .ref a ∧ XfC K C ∧ PySem.W.findIn K (.ref C) f = some none ∧ H1 a = some (.ext (XAt a C (some dd))) ∧ H1 dd = some (.ext (XdAt dd fs)) ∧ fs.lookup f = some v ∧ Q v H1
theorem pe_xv {X : Cx} {e : Expr} {te : TE} {pos : Pos} {n : Str} (he : PE X e te) (hb : attributeBase e n X.env (eval e X.env) = eval e X.env := by rfl) : PE X (.Attribute e n pos) (tXv n te X.K) := by
  refine ⟨fun pins s σ H Q I h => ?_⟩
  refine attr_of hb (thn (he.run pins s σ H _ I h) fun u s1 hh => ?_)
  obtain ⟨x, H1, I1, rx, a, C, dd, fs, v, ex, T, hno, ea, ed, l, q⟩ := hh
  subst ex
  obtain rfl : u = Value.ref a := rx
  obtain ⟨⟨oe, vs, ha, z1, z2, hd⟩, _⟩ := I1.hok a _ ea
  obtain ⟨⟨mA, hns, hr⟩, _⟩ := I1.hok dd _ ed
  obtain ⟨od, ho, hl⟩ := lookIn_ns hns
  obtain ⟨u, hu, ru⟩ := RelO.some_of (v := v) (o := mA n) (by rw [← l]; exact hr n)
  have J : PySem.W.InstAt s1.heap a oe C (some od) := ⟨ha, z1, by unfold PySem.W.notCls; rw [hd] <;> rfl, by rw [z2]; exact ho⟩
  exact HandSPX.exc_get I1.kIn J T.ga T.gg T.exC (PySem.W.findObj_own T.hdC hno rfl (by rw [hl, hu])) (handed_of ru) ⟨v, H1, I1.tok _, ru, q⟩
section
variable {X : Cx} {c : Ct} {i : Nat} {n f y : Str} {p p1 p2 pos : Pos} {ts : List Str} {tab : List (Str × Bool)}
theorem me_isVG {v : V} {cv : Value} (hN : X.N[i]? = some n) (hv : Vis X.env.scope n) (hi : X.mg "isinstance" = none) (hg : Gl X "isinstance") (he : PE X (.Name y p2) (tC v)) (hc : ∀ u, RelV v u → u = cv) (ht : ∀ p ∈ tab, XvK X.K cv p.1 p.2) (hK : c.K = X.K := by rfl)
    (hd : (n == ("__debug__" : Str)) = false := by decide) (hcd : (n == ("__classdict__" : Str)) = false := by decide) : PE X (.Call (.Name "isinstance" p) [.Name n p1, .Name y p2] [] pos) (rdE c (mIsV i tab)) := by
  have ha : PA X [.Name n p1, .Name y p2] (tCons (tVar i) (tCons (tC v) tNil)) := pa_cons (pe_var hN hv hd hcd) (pa_cons he pa_nil)
  refine PEw (pe_callB call_isK hg hi (by decide +kernel) ha (by decide) (by decide)) fun σ H Q ⟨F, Hk, bp, ρ, S, h⟩ => ?_
  unfold mIsV at h
  cases ex : exnAt ρ i with
  | none => rw [ex] at h; exact h.elim
  | some q =>
    obtain ⟨C, fs⟩ := q
    rw [ex] at h
    obtain ⟨u, ev, rv⟩ := S.1.get (exn_at ex) rfl
    refine ⟨u, ev, ?_⟩
    cases el : tab.lookup C with
    | none => simp only [el] at h; exact h.elim
    | some b =>
      simp only [el] at h
      obtain ⟨a, CA, d, rfl, ns, ea, ed⟩ := RV.exn.mp rv
      obtain ⟨D, k1, k2, k3⟩ := (ht _ (lookup_mem el)).ex
      rw [hK] at ns
      rw [ns] at k1
      cases k1
      refine ⟨a, CA, d, v, cv, b, rfl, k2, S.1.ex _ _ ea, ?_, hc, k3, h _ _ _ (Ex.refl _) S.1 (RV.bl.mpr rfl)⟩
      rcases ed with ⟨_, q⟩ | ⟨dx, q, q2⟩
      · exact .inl q
      · exact .inr ⟨dx, _, q, S.1.ex _ _ q2⟩
theorem me_isV (hN : X.N[i]? = some n) (hv : Vis X.env.scope n) (hi : X.mg "isinstance" = none) (hg : Gl X "isinstance") (hy : Gl X y) (ney : ∃ D, X.mg y = some (.ref D)) (ht : ∀ p ∈ tab, ∀ D, X.mg y = some (.ref D) → XvK X.K (.ref D) p.1 p.2) (hK : c.K = X.K := by rfl)
    (hd : (n == ("__debug__" : Str)) = false := by decide) (hcd : (n == ("__classdict__" : Str)) = false := by decide) (hyd : (y == ("__debug__" : Str)) = false := by decide) : PE X (.Call (.Name "isinstance" p) [.Name n p1, .Name y p2] [] pos) (rdE c (mIsV i tab)) := by
  obtain ⟨D, my⟩ := ney
  exact me_isVG hN hv hi hg (pe_glob hy my (v := .ref D) rfl hyd) (fun _ r => r) (fun q hq => ht q hq D my) hK hd hcd
theorem me_isVT {T : String} (hN : X.N[i]? = some n) (hv : Vis X.env.scope n) (hi : X.mg "isinstance" = none) (hg : Gl X "isinstance") (hy : Gl X y) (my : X.mg y = none) (hb : bootBuiltins y = some (.type T)) (ht : ∀ p ∈ tab, XvK X.K (.type T) p.1 p.2) (hK : c.K = X.K := by rfl)
    (hd : (n == ("__debug__" : Str)) = false := by decide) (hcd : (n == ("__classdict__" : Str)) = false := by decide) (hyn : y ≠ "__name__" := by decide) (hyd : (y == ("__debug__" : Str)) = false := by decide) : PE X (.Call (.Name "isinstance" p) [.Name n p1, .Name y p2] [] pos) (rdE c (mIsV i tab)) :=
  me_isVG hN hv hi hg (pe_bltn hy my hb (v := .ty T) rfl hyn hyd) (fun _ r => r) ht hK hd hcd
theorem me_xv (hN : X.N[i]? = some n) (hv : Vis X.env.scope n) (hg : ∀ x ∈ ts, FnG X.K X.mg x) (hx : ∀ x ∈ ts, XcF X.K X.mg [f] x) (hK : c.K = X.K := by rfl)
    (hb : attributeBase (.Name n p) f X.env (eval (.Name n p) X.env) = eval (.Name n p) X.env := by rfl) (hd : (n == ("__debug__" : Str)) = false := by decide) (hcd : (n == ("__classdict__" : Str)) = false := by decide) : PE X (.Attribute (.Name n p) f pos) (rdE c (mXv i ts f)) := by
  refine PEw (pe_xv (pe_var (i := i) hN hv hd hcd) hb) fun σ H Q ⟨F, Hk, bp, ρ, S, h⟩ => ?_
  unfold mXv at h
  cases ex : exnAt ρ i with
  | none => rw [ex] at h; exact h.elim
  | some q =>
    obtain ⟨C, fs⟩ := q
    rw [ex] at h
    simp only at h
    split at h
    rotate_left
    · exact h.elim
    rename_i hc
    split at h
    rotate_left
    · exact h.elim
    rename_i x el
    split at h
    rotate_left
    · exact h.elim
    rename_i fx
    obtain ⟨u, ev, rv⟩ := S.1.get (exn_at ex) rfl
    obtain ⟨a, CA, d, rfl, ns, ea, ed⟩ := RV.exn.mp rv
    have hm : C ∈ ts := by simpa using hc
    obtain ⟨b, g1, g2⟩ := (hg C hm).ex
    rw [hK] at ns
    rw [ns] at g2
    cases g2
    obtain ⟨C', h3, h4⟩ := (hx C hm).ex
    rw [g1] at h3
    cases h3
    have G := xcB_ok h4
    rcases ed with ⟨q, _⟩ | ⟨dx, rfl, q2⟩
    · rw [q] at el; cases el
    · refine ⟨_, ev, a, _, dx, _, plV x, rfl, G.xf, G.no f (List.mem_singleton.mpr rfl), S.1.ex _ _ ea, S.1.ex _ _ q2, by rw [look_plV, el]; rfl, h _ _ _ (Ex.refl _) S.1 (plV_rv fx)⟩
end
end Tm
set_option Elab.async false
set_option linter.all false
set_option maxRecDepth 100000
set_option maxHeartbeats 4000000
namespace Tm
open PySem L2
def fnNames : List Str := ["ahead_of_last", "all_or_none", "fill", "five_on", "half_up", "high_half", "lacking", "last_figure", "low_half", "lowest_two", "nine_less", "none_or_all", "not_all", "one_of_none", "one_of_two", "one_or_none", "order_byte", "other_twos", "product_byte", "sign_below", "six_on", "ten_high", "ten_low", "ten_or_none", "top_two"]
def m_lmixed : MS := mSeq (mAsg (mLst (mCons (mC (.int 2147483629)) (mCons (mC (.int 2147483587)) (mCons (mC (.int 2147483579)) (mCons (mC (.int 2147483563)) (mCons (mC (.int 2147483549)) (mCons (mC (.int 2147483543)) (mCons (mC (.int 2147483497)) (mCons (mC (.int 2147483489)) (mNil)))))))))) (gSet 3)) (mSeq (mAsg (mOp fMod (mOp fAdd (mOp fAdd (mOp fAdd (mVar 0) (mOp fMul (mC (.int 7919)) (mVar 2))) (mOp fMul (mC (.int 104729)) (mVar 1))) (mC (.int 13))) (mC (.int 2147483647))) (gSet 4)) (mSeq (mAsg (mOp fMod (mOp fPow (mVar 4) (mC (.int 5))) (mOp fIx (mVar 3) (mOp fMod (mVar 1) (mC (.int 8))))) (gSet 4)) (mSeq (mAsg (mOp fMod (mOp fAdd (mOp fAdd (mVar 4) (mOp fMul (mC (.int 40692)) (mVar 2))) (mVar 1)) (mC (.int 2147483647))) (gSet 5)) (mRet (mOp fAdd (mOp fMul (mOp fMod (mOp fPow (mVar 5) (mC (.int 5))) (mC (.int 2147483647))) (mC (.int 1000000007))) (mVar 4))))))
def f_lmixed : MF := mFn 6 [] m_lmixed
def b_ldraws_0 : MS := mIfS (mTest (mOp fGt (mVar 4) (mC (.int 0)))) (mSeq (mDrop (mLm lmAppend 3 (mCons (mOp fMod (mVar 4) (mOp fIx (mVar 2) (mVar 5))) (mNil)))) (mAsg (mOp fDiv (mVar 4) (mOp fIx (mVar 2) (mVar 5))) (gSet 4))) (mDrop (mLm lmAppend 3 (mCons (mOp fMod (mFz (mCall f_lmixed (mCons (mVar 0) (mCons (mVar 5) (mCons (mVar 1) (mNil)))))) (mOp fIx (mVar 2) (mVar 5))) (mNil))))
def m_ldraws : MS := mSeq (mSetO 3 (mLstO (mNil))) (mSeq (mAsg (mC (.int 0)) (gSet 4)) (mSeq (mIfS (mTest (mOp fGe (mBlt bAbs (mCons (mVar 0) (mNil))) (mOp fPow (mC (.int 10)) (mC (.int 18))))) (mAsg (mBlt bAbs (mCons (mVar 0) (mNil))) (gSet 4)) (mPass)) (mSeq (mFor (mR1 (mCons (mBlt bLen (mCons (mVar 2) (mNil))) (mNil))) (gSet 5) (b_ldraws_0)) (mRet (mMove 3)))))
def f_ldraws : MF := mFn 6 [] m_ldraws
def m_lcell : MS := mSeq (mIfS (mTest (mOp fLt (mVar 1) (mBlt bLen (mCons (mVar 0) (mNil))))) (mRet (mOp fIx (mVar 0) (mVar 1))) (mPass)) (mSeq (mIfS (mTest (mOp fEq (mBlt bLen (mCons (mVar 0) (mNil))) (mC (.int 0)))) (mRet (mOp fMul (mC (.int 7919)) (mOp fAdd (mVar 1) (mC (.int 1))))) (mPass)) (mRet (mOp fAdd (mOp fIx (mVar 0) (mOp fMod (mVar 1) (mBlt bLen (mCons (mVar 0) (mNil))))) (mOp fMul (mC (.int 104729)) (mVar 1)))))
def f_lcell : MF := mFn 2 [] m_lcell
def m_ljust (self : MF) : MS := mSeq (mIfS (mTest (mBlt bIsi (mCons (mVar 1) (mCons (mC (.raw (.ty "tuple"))) mNil)))) (mSeq (mIfS (mOrT (mNotT (mTest (mBlt bIsi (mCons (mVar 0) (mCons (mC (.raw (.ty "tuple"))) mNil))))) (mTest (mOp fNe (mBlt bLen (mCons (mVar 0) (mNil))) (mBlt bLen (mCons (mVar 1) (mNil)))))) (mRet (mC (.bl false))) (mPass)) (mRet (mBlt bAll (mCons (mFz (mLcO (mZip (mCons (mVar 0) (mCons (mVar 1) (mNil)))) (.tp [2, 3]) (mYes) (mFz (mCall0 self (mCons (mVar 2) (mCons (mVar 3) (mNil))))) [2, 3])) (mNil))))) (mPass)) (mSeq (mIfS (mOrT (mTest (mBlt bIsi (mCons (mVar 1) (mCons (mC (.raw (.ty "str"))) mNil)))) (mTest (mOp fIsN (mVar 1) (mC .non)))) (mRet (mBv (mAndT (mTest (mOp fEq (mBlt bIsi (mCons (mVar 0) (mCons (mC (.raw (.ty "str"))) mNil))) (mBlt bIsi (mCons (mVar 1) (mCons (mC (.raw (.ty "str"))) mNil))))) (mTest (mOp fEq (mVar 0) (mVar 1)))))) (mPass)) (mSeq (mIfS (mOrT (mNotT (mTest (mBlt bIsi (mCons (mVar 0) (mCons (mC (.raw (.ty "int"))) mNil))))) (mTest (mOp fNe (mBlt bIsi (mCons (mVar 0) (mCons (mC (.raw (.ty "bool"))) mNil))) (mBlt bIsi (mCons (mVar 1) (mCons (mC (.raw (.ty "bool"))) mNil)))))) (mRet (mC (.bl false))) (mPass)) (mRet (mOp fEq (mVar 0) (mVar 1)))))
def f_ljust : MF := mRec 4 [] m_ljust 8
def m_lraised : MS := mSeq (mIfS (mTest (mOp fEq (mVar 0) (mC (.int 0)))) (mRaise1 "NoShape" "part" (mVar 1)) (mPass)) (mSeq (mIfS (mTest (mOp fEq (mVar 0) (mC (.int 1)))) (mRaise1 "NoFit" "number" (mVar 1)) (mPass)) (mSeq (mIfS (mTest (mOp fEq (mVar 0) (mC (.int 2)))) (mRaise2 "Wrong" "place" "why" (mVar 1) (mVar 2)) (mPass)) (mSeq (mIfS (mTest (mOp fEq (mVar 0) (mC (.int 3)))) (mRaise1 "NoTable" "at" (mVar 1)) (mPass)) (mSeq (mIfS (mTest (mOp fEq (mVar 0) (mC (.int 4)))) (mRaise1 "NoRow" "at" (mVar 1)) (mPass)) (mSeq (mIfS (mTest (mOp fEq (mVar 0) (mC (.int 5)))) (mRaise1 "BadLine" "at" (mVar 1)) (mPass)) (mSeq (mIfS (mTest (mOp fEq (mVar 0) (mC (.int 6)))) (mRaise1 "TooLong" "number" (mVar 1)) (mPass)) (mSeq (mIfS (mTest (mOp fEq (mVar 0) (mC (.int 7)))) (mRaise1 "NoRule" "rule" (mVar 1)) (mPass)) (mSeq (mIfS (mTest (mOp fEq (mVar 0) (mC (.int 8)))) (mRaise1 "NoDeed" "deed" (mVar 1)) (mPass)) (mSeq (mIfS (mTest (mOp fEq (mVar 0) (mC (.int 9)))) (mRaise1 "NoName" "name" (mVar 1)) (mPass)) (mRet (mC .non)))))))))))
def f_lraised : MF := mFn 3 [] m_lraised
def m_lraised_of_text : MS := mSeq (mIfS (mTest (mOp fEq (mVar 0) (mC (.int 10)))) (mRaise0c "NoText" (mVar 1)) (mPass)) (mSeq (mIfS (mTest (mOp fEq (mVar 0) (mC (.int 11)))) (mRaise0c "Nought" (mVar 1)) (mPass)) (mSeq (mIfS (mTest (mOp fEq (mVar 0) (mC (.int 12)))) (mRaise0c "Unlike" (mVar 1)) (mPass)) (mSeq (mIfS (mTest (mOp fEq (mVar 0) (mC (.int 13)))) (mRaise0c "NoLine" (mVar 1)) (mPass)) (mSeq (mIfS (mTest (mOp fEq (mVar 0) (mC (.int 14)))) (mRaise0c "NothingDone" (mVar 1)) (mPass)) (mRet (mC .non))))))
def f_lraised_of_text : MF := mFn 2 [] m_lraised_of_text
def b_lmet_0 : MS := mSeq (mDrop (mFz (mCall f_lraised (mCons (mVar 0) (mCons (mVar 1) (mCons (mVar 2) (mNil))))))) (mDrop (mFz (mCall f_lraised_of_text (mCons (mVar 0) (mCons (mBlt bStrA (mCons (mVar 1) (mNil))) (mNil))))))
def m_lmet : MS := mSeq (mAsg (mC .non) (gSet 3)) (mSeq (mTryV 4 3 [("BadLine", true), ("NoDeed", true), ("NoFit", true), ("NoLine", true), ("NoName", true), ("NoRow", true), ("NoRule", true), ("NoShape", true), ("NoTable", true), ("NoText", true), ("NothingDone", true), ("Nought", true), ("TooLong", true), ("Unlike", true), ("Wrong", true)] (b_lmet_0)) (mRet (mVar 3)))
def f_lmet : MF := mFn 5 [] m_lmet
def m_lthing : MS := mSeq (mAsg (mFz (mCall f_ldraws (mCons (mVar 0) (mCons (mVar 1) (mCons (mLst (mCons (mC (.int 4)) (mCons (mC (.int 9)) (mCons (mOp fPow (mC (.int 10)) (mC (.int 40))) (mNil))))) (mNil)))))) (gTp 3 (gsCons (gSet 3) (gsCons (gSet 4) (gsCons (gSet 5) (gsNil)))))) (mSeq (mIfS (mTest (mOp fLt (mVar 3) (mC (.int 2)))) (mRet (mOp fMul (mVar 5) (mOp fSub (mC (.int 1)) (mOp fMul (mC (.int 2)) (mVar 3))))) (mPass)) (mSeq (mAsg (mC (.str "abcdefghijklmnopqrstuvwxyzABCDEFGHIJKLMNOPQRSTUVWXYZ 0123456789.-")) (gSet 2)) (mRet (mSm smJoin (mC (.str "")) (mCons (mFz (mLcO (mR1 (mCons (mVar 4) (mNil))) (.nm 6) (mYes) (mOp fIx (mVar 2) (mOp fMod (mOp fDiv (mVar 5) (mOp fAdd (mVar 6) (mC (.int 1)))) (mC (.int 65)))) [6])) (mNil))))))
def f_lthing : MF := mFn 7 [] m_lthing
def m_lsorts2 : MS := mSeq (mAsg (mLst (mCons (mTup (mCons (mC (.str "NoShape")) (mCons (mIsV 0 [("BadLine", false), ("NoDeed", false), ("NoFit", false), ("NoLine", false), ("NoName", false), ("NoRow", false), ("NoRule", false), ("NoShape", true), ("NoTable", false), ("NoText", false), ("NothingDone", false), ("Nought", false), ("TooLong", false), ("Unlike", false), ("Wrong", false)]) (mNil)))) (mCons (mTup (mCons (mC (.str "NoFit")) (mCons (mIsV 0 [("BadLine", false), ("NoDeed", false), ("NoFit", true), ("NoLine", false), ("NoName", false), ("NoRow", false), ("NoRule", false), ("NoShape", false), ("NoTable", false), ("NoText", false), ("NothingDone", false), ("Nought", false), ("TooLong", false), ("Unlike", false), ("Wrong", false)]) (mNil)))) (mCons (mTup (mCons (mC (.str "Wrong")) (mCons (mIsV 0 [("BadLine", false), ("NoDeed", false), ("NoFit", false), ("NoLine", false), ("NoName", false), ("NoRow", false), ("NoRule", false), ("NoShape", false), ("NoTable", false), ("NoText", false), ("NothingDone", false), ("Nought", false), ("TooLong", false), ("Unlike", false), ("Wrong", true)]) (mNil)))) (mNil))))) (gSet 1)) (mSeq (mAsg (mOp fAdd (mVar 1) (mLst (mCons (mTup (mCons (mC (.str "NoTable")) (mCons (mIsV 0 [("BadLine", false), ("NoDeed", false), ("NoFit", false), ("NoLine", false), ("NoName", false), ("NoRow", false), ("NoRule", false), ("NoShape", false), ("NoTable", true), ("NoText", false), ("NothingDone", false), ("Nought", false), ("TooLong", false), ("Unlike", false), ("Wrong", false)]) (mNil)))) (mCons (mTup (mCons (mC (.str "NoRow")) (mCons (mIsV 0 [("BadLine", false), ("NoDeed", false), ("NoFit", false), ("NoLine", false), ("NoName", false), ("NoRow", true), ("NoRule", false), ("NoShape", false), ("NoTable", false), ("NoText", false), ("NothingDone", false), ("Nought", false), ("TooLong", false), ("Unlike", false), ("Wrong", false)]) (mNil)))) (mNil))))) (gSet 1)) (mSeq (mAsg (mOp fAdd (mVar 1) (mLst (mCons (mTup (mCons (mC (.str "BadLine")) (mCons (mIsV 0 [("BadLine", true), ("NoDeed", false), ("NoFit", false), ("NoLine", false), ("NoName", false), ("NoRow", false), ("NoRule", false), ("NoShape", false), ("NoTable", false), ("NoText", false), ("NothingDone", false), ("Nought", false), ("TooLong", false), ("Unlike", false), ("Wrong", false)]) (mNil)))) (mCons (mTup (mCons (mC (.str "TooLong")) (mCons (mIsV 0 [("BadLine", false), ("NoDeed", false), ("NoFit", false), ("NoLine", false), ("NoName", false), ("NoRow", false), ("NoRule", false), ("NoShape", false), ("NoTable", false), ("NoText", false), ("NothingDone", false), ("Nought", false), ("TooLong", true), ("Unlike", false), ("Wrong", false)]) (mNil)))) (mNil))))) (gSet 1)) (mSeq (mAsg (mOp fAdd (mVar 1) (mLst (mCons (mTup (mCons (mC (.str "NoRule")) (mCons (mIsV 0 [("BadLine", false), ("NoDeed", false), ("NoFit", false), ("NoLine", false), ("NoName", false), ("NoRow", false), ("NoRule", true), ("NoShape", false), ("NoTable", false), ("NoText", false), ("NothingDone", false), ("Nought", false), ("TooLong", false), ("Unlike", false), ("Wrong", false)]) (mNil)))) (mCons (mTup (mCons (mC (.str "NoDeed")) (mCons (mIsV 0 [("BadLine", false), ("NoDeed", true), ("NoFit", false), ("NoLine", false), ("NoName", false), ("NoRow", false), ("NoRule", false), ("NoShape", false), ("NoTable", false), ("NoText", false), ("NothingDone", false), ("Nought", false), ("TooLong", false), ("Unlike", false), ("Wrong", false)]) (mNil)))) (mNil))))) (gSet 1)) (mSeq (mAsg (mOp fAdd (mVar 1) (mLst (mCons (mTup (mCons (mC (.str "NoName")) (mCons (mIsV 0 [("BadLine", false), ("NoDeed", false), ("NoFit", false), ("NoLine", false), ("NoName", true), ("NoRow", false), ("NoRule", false), ("NoShape", false), ("NoTable", false), ("NoText", false), ("NothingDone", false), ("Nought", false), ("TooLong", false), ("Unlike", false), ("Wrong", false)]) (mNil)))) (mCons (mTup (mCons (mC (.str "NoText")) (mCons (mIsV 0 [("BadLine", false), ("NoDeed", false), ("NoFit", false), ("NoLine", false), ("NoName", false), ("NoRow", false), ("NoRule", false), ("NoShape", false), ("NoTable", false), ("NoText", true), ("NothingDone", false), ("Nought", false), ("TooLong", false), ("Unlike", false), ("Wrong", false)]) (mNil)))) (mNil))))) (gSet 1)) (mSeq (mAsg (mOp fAdd (mVar 1) (mLst (mCons (mTup (mCons (mC (.str "Nought")) (mCons (mIsV 0 [("BadLine", false), ("NoDeed", false), ("NoFit", false), ("NoLine", false), ("NoName", false), ("NoRow", false), ("NoRule", false), ("NoShape", false), ("NoTable", false), ("NoText", false), ("NothingDone", false), ("Nought", true), ("TooLong", false), ("Unlike", false), ("Wrong", false)]) (mNil)))) (mCons (mTup (mCons (mC (.str "Unlike")) (mCons (mIsV 0 [("BadLine", false), ("NoDeed", false), ("NoFit", false), ("NoLine", false), ("NoName", false), ("NoRow", false), ("NoRule", false), ("NoShape", false), ("NoTable", false), ("NoText", false), ("NothingDone", false), ("Nought", false), ("TooLong", false), ("Unlike", true), ("Wrong", false)]) (mNil)))) (mNil))))) (gSet 1)) (mSeq (mAsg (mOp fAdd (mVar 1) (mLst (mCons (mTup (mCons (mC (.str "NoLine")) (mCons (mIsV 0 [("BadLine", false), ("NoDeed", false), ("NoFit", false), ("NoLine", true), ("NoName", false), ("NoRow", false), ("NoRule", false), ("NoShape", false), ("NoTable", false), ("NoText", false), ("NothingDone", false), ("Nought", false), ("TooLong", false), ("Unlike", false), ("Wrong", false)]) (mNil)))) (mCons (mTup (mCons (mC (.str "NothingDone")) (mCons (mIsV 0 [("BadLine", false), ("NoDeed", false), ("NoFit", false), ("NoLine", false), ("NoName", false), ("NoRow", false), ("NoRule", false), ("NoShape", false), ("NoTable", false), ("NoText", false), ("NothingDone", true), ("Nought", false), ("TooLong", false), ("Unlike", false), ("Wrong", false)]) (mNil)))) (mNil))))) (gSet 1)) (mSeq (mAsg (mOp fAdd (mVar 1) (mLst (mCons (mTup (mCons (mC (.str "no LoftError")) (mCons (mBv (mNotT (mTest (mIsV 0 [("BadLine", true), ("NoDeed", true), ("NoFit", true), ("NoLine", true), ("NoName", true), ("NoRow", true), ("NoRule", true), ("NoShape", true), ("NoTable", true), ("NoText", true), ("NothingDone", true), ("Nought", true), ("TooLong", true), ("Unlike", true), ("Wrong", true)])))) (mNil)))) (mCons (mTup (mCons (mC (.str "no ValueError")) (mCons (mBv (mNotT (mTest (mIsV 0 [("BadLine", true), ("NoDeed", true), ("NoFit", true), ("NoLine", true), ("NoName", true), ("NoRow", true), ("NoRule", true), ("NoShape", true), ("NoTable", true), ("NoText", true), ("NothingDone", true), ("Nought", true), ("TooLong", true), ("Unlike", true), ("Wrong", true)])))) (mNil)))) (mNil))))) (gSet 1)) (mRet (mSm smJoin (mC (.str " ")) (mCons (mFz (mLcO (mItV (mVar 1)) (.tp [2, 3]) (mTest (mVar 3)) (mVar 2) [2, 3])) (mNil)))))))))))
def f_lsorts2 : MF := mFn 4 [] m_lsorts2
def m_lfields2 : MS := mSeq (mIfS (mTest (mOp fEq (mVar 1) (mC (.int 0)))) (mRet (mTup (mCons (mXv 0 ["NoShape"] "part") (mNil)))) (mPass)) (mSeq (mIfS (mTest (mOp fIn (mVar 1) (mTup (mCons (mC (.int 1)) (mCons (mC (.int 6)) (mNil)))))) (mRet (mTup (mCons (mXv 0 ["NoFit", "TooLong"] "number") (mNil)))) (mPass)) (mSeq (mIfS (mTest (mOp fEq (mVar 1) (mC (.int 2)))) (mRet (mTup (mCons (mXv 0 ["Wrong"] "place") (mCons (mXv 0 ["Wrong"] "why") (mNil))))) (mPass)) (mSeq (mIfS (mTest (mOp fLt (mVar 1) (mC (.int 6)))) (mRet (mTup (mCons (mXv 0 ["BadLine", "NoRow", "NoTable"] "at") (mNil)))) (mPass)) (mSeq (mIfS (mTest (mOp fEq (mVar 1) (mC (.int 7)))) (mRet (mTup (mCons (mXv 0 ["NoRule"] "rule") (mNil)))) (mPass)) (mSeq (mIfS (mTest (mOp fEq (mVar 1) (mC (.int 8)))) (mRet (mTup (mCons (mXv 0 ["NoDeed"] "deed") (mNil)))) (mPass)) (mSeq (mIfS (mTest (mOp fEq (mVar 1) (mC (.int 9)))) (mRet (mTup (mCons (mXv 0 ["NoName"] "name") (mNil)))) (mPass)) (mRet (mTup (mNil)))))))))
def f_lfields2 : MF := mFn 2 [] m_lfields2
def m_lright11 : MS := mSeq (mAsg (mOp fIx (mTup (mCons (mTup (mCons (mVar 3) (mNil))) (mCons (mTup (mCons (mVar 3) (mCons (mVar 4) (mNil)))) (mCons (mTup (mNil)) (mNil))))) (mOp fAdd (mBlt bInt (mCons (mOp fEq (mVar 1) (mC (.int 2))) (mNil))) (mOp fMul (mC (.int 2)) (mBlt bInt (mCons (mOp fGt (mVar 1) (mC (.int 9))) (mNil)))))) (gSet 5)) (mRet (mBv (mAndT (mTest (mOp fNotN (mVar 0) (mC .non))) (mAndT (mTest (mOp fEq (mFz (mCall f_lsorts2 (mCons (mVar 0) (mNil)))) (mVar 2))) (mTest (mFz (mCall f_ljust (mCons (mFz (mCall f_lfields2 (mCons (mVar 0) (mCons (mVar 1) (mNil))))) (mCons (mVar 5) (mNil))))))))))
def f_lright11 : MF := mFn 6 [] m_lright11
def b_law142_0 : MS := mSeq (mSetO 4 (mLcO (mR1 (mCons (mC (.int 4)) (mNil))) (.nm 7) (mYes) (mFz (mCall0 f_lthing (mCons (mFz (mCall0 f_lcell (mCons (mVar 0) (mCons (mOp fAdd (mOp fMul (mC (.int 4)) (mVar 2)) (mVar 7)) (mNil))))) (mCons (mOp fAdd (mC (.int 581)) (mVar 7)) (mNil))))) [7])) (mSeq (mAsg (mFz (mCall f_lmet (mCons (mVar 2) (mCons (mOp fIx (mVar 4) (mC (.int 0))) (mCons (mOp fIx (mVar 4) (mC (.int 1))) (mNil)))))) (gSet 5)) (mSeq (mAsg (mFz (mCall f_lmet (mCons (mVar 2) (mCons (mOp fIx (mVar 4) (mC (.int 2))) (mCons (mOp fIx (mVar 4) (mC (.int 3))) (mNil)))))) (gSet 6)) (mSeq (mIfS (mNotT (mTest (mFz (mCall f_lright11 (mCons (mVar 5) (mCons (mVar 2) (mCons (mVar 3) (mCons (mOp fIx (mVar 4) (mC (.int 0))) (mCons (mOp fIx (mVar 4) (mC (.int 1))) (mNil)))))))))) (mRet (mC (.bl false))) (mPass)) (mIfS (mNotT (mTest (mFz (mCall f_lright11 (mCons (mVar 6) (mCons (mVar 2) (mCons (mVar 3) (mCons (mOp fIx (mVar 4) (mC (.int 2))) (mCons (mOp fIx (mVar 4) (mC (.int 3))) (mNil)))))))))) (mRet (mC (.bl false))) (mPass)))))
def m_law142 : MS := mSeq (mAsg (mC (.str "NoShape NoFit Wrong NoTable NoRow BadLine TooLong NoRule NoDeed NoName")) (gSet 1)) (mSeq (mAsg (mOp fAdd (mVar 1) (mC (.str " NoText Nought Unlike NoLine NothingDone"))) (gSet 1)) (mSeq (mFor (mEnum (mCons (mSm smSplit (mVar 1) (mCons (mC (.str " ")) (mNil))) (mNil))) (gTp 2 (gsCons (gSet 2) (gsCons (gSet 3) (gsNil)))) (b_law142_0)) (mRet (mC (.bl true)))))
def f_law142 : MF := mFn 8 [] m_law142
theorem lcell_ok (ns : List Int) (k : Nat) : ∃ v : Int, f_lcell [.scr ns, .int k] = .ok (.int v, []) := by
  unfold f_lcell
  by_cases h : (k : Int) < ns.length
  · have h' : k < ns.length := by omega
    refine ⟨ns[k], mFn_ok ?_⟩
    simp [m_lcell, h', atI_ge]
  · by_cases h0 : ns.length = 0
    · have h' : ns = [] := List.length_eq_zero_iff.mp h0
      subst h'
      refine ⟨7919 * (k + 1), mFn_ok ?_⟩
      simp [m_lcell, mulOk_l]
    · have h' : ¬ k < ns.length := by omega
      have hp : (0 : Int) < ns.length := by omega
      have e := fmod_ge' (a := k) hp
      have e2 := fmod_lt' (a := k) hp
      have h2 : ((k : Int).fmod ns.length).toNat < ns.length := by omega
      have h3 : ¬ ns = [] := by intro h; subst h; exact h0 rfl
      have h4 : ¬ ((ns.length : Int) = 0) := by omega
      refine ⟨ns[((k : Int).fmod ns.length).toNat] + 104729 * k, mFn_ok ?_⟩
      simp [m_lcell, h', h3, h4, atI_ge e, h2, mulOk_l]
theorem lmixed_ok (a b c : Int) : ∃ v : Int, f_lmixed [.int a, .int b, .int c] = .ok (.int v, []) := by
  unfold f_lmixed
  have e := fmod_ge' (a := b) (b := 8) (by decide)
  have e2 := fmod_lt' (a := b) (b := 8) (by decide)
  generalize hi : b.fmod 8 = i at e e2
  obtain ⟨p, hp, hp1, hp2⟩ : ∃ p : Int, atI [MV.int 2147483629, .int 2147483587, .int 2147483579, .int 2147483563, .int 2147483549, .int 2147483543, .int 2147483497, .int 2147483489] i = some (.int p) ∧ 0 < p ∧ p < 2147483648 := by
    obtain ⟨j, rfl⟩ := Int.eq_ofNat_of_zero_le e
    match j, e2 with
    | 0, _ => exact ⟨_, rfl, by decide, by decide⟩
    | 1, _ => exact ⟨_, rfl, by decide, by decide⟩
    | 2, _ => exact ⟨_, rfl, by decide, by decide⟩
    | 3, _ => exact ⟨_, rfl, by decide, by decide⟩
    | 4, _ => exact ⟨_, rfl, by decide, by decide⟩
    | 5, _ => exact ⟨_, rfl, by decide, by decide⟩
    | 6, _ => exact ⟨_, rfl, by decide, by decide⟩
    | 7, _ => exact ⟨_, rfl, by decide, by decide⟩
    | j + 8, h => exact absurd h (by omega)
  have b1 : ∀ x : Int, 0 ≤ x.fmod 2147483647 ∧ x.fmod 2147483647 < 2147483647 := fun x => ⟨fmod_ge' (by decide), fmod_lt' (by decide)⟩
  have b2 : ∀ x : Int, (x.fmod 2147483647).natAbs < 18446744073709551616 := fun x => by have := b1 x; omega
  have b3 : ∀ x : Int, mulOk (x.fmod 2147483647) 1000000007 = true := fun x => mulOk_r (by decide) (by decide)
  have h : ∃ v ρ, m_lmixed [some (.int a), some (.int b), some (.int c), none, none, none] = .ok (.rt (.int v), ρ) := by
    simp [m_lmixed, szOk_small, mulOk_l, hi, hp, hp1, Int.ne_of_gt hp1, b2, b3]
  obtain ⟨v, ρ, h⟩ := h
  exact ⟨v, mFn_ok ⟨ρ, h⟩⟩
def DrawsAre (ws ds : List Int) : Prop := ds.length = ws.length ∧ ∀ i (h : i < ws.length) (h' : i < ds.length), 0 ≤ ds[i] ∧ ds[i] < ws[i]
theorem ldraws_ok (cell salt : Int) (ws : List Int) (hn : ws.length < 1000) (hw : ∀ w ∈ ws, 0 < w ∧ divOk w = true) : ∃ ds : List Int, DrawsAre ws ds ∧ f_ldraws [.int cell, .int salt, .lst (ws.map .int)] = .ok (.own (ds.map .int), []) := by
  have key : ∀ l0 : Int, ∃ ρ', mLoop (gSet 5) b_ldraws_0 (rngM 0 1 ws.length) [some (.int cell), some (.int salt), some (.lst (ws.map .int)), some (.own []), some (.int l0), none] = .ok (.nx, ρ') ∧ ∃ ds l v, DrawsAre (ws.take ws.length) ds ∧ ρ' = [some (.int cell), some (.int salt), some (.lst (ws.map .int)), some (.own (ds.map .int)), some (.int l), v] := by
    intro l0
    refine loop_rng (fun i ρ => ∃ ds l v, DrawsAre (ws.take i) ds ∧ ρ = [some (.int cell), some (.int salt), some (.lst (ws.map .int)), some (.own (ds.map .int)), some (.int l), v]) ⟨[], l0, none, ⟨by simp, by simp⟩, rfl⟩ ?_
    rintro i ρ hi ⟨ds, l, v, ⟨hd1, hd2⟩, rfl⟩
    have hwi := hw ws[i] (List.getElem_mem hi)
    have hl : ds.length = i := by rw [hd1, List.length_take]; omega
    have ix : atI (ws.map MV.int) (i : Int) = some (.int ws[i]) := by rw [atI_ge (by omega)]; simp [hi]
    have ds' : ∀ d : Int, DrawsAre (ws.take (i + 1)) (ds ++ [d.fmod ws[i]]) := by
      intro d
      refine ⟨by simp [hl, List.length_take]; omega, fun j h h' => ?_⟩
      have hj : j ≤ i := by rw [List.length_take] at h; omega
      rw [List.getElem_take]
      by_cases e : j = i
      · subst e
        rw [List.getElem_append_right (by omega)]
        simp [hl]
        exact ⟨fmod_ge' hwi.1, fmod_lt' hwi.1⟩
      · have := hd2 j (by rw [List.length_take]; omega) (by omega)
        rw [List.getElem_append_left (by omega)]
        rw [List.getElem_take] at this
        exact this
    have hsz : ds.length < sizeLine := by rw [sizeLine_eq]; omega
    by_cases hp : 0 < l
    · refine ⟨[some (.int cell), some (.int salt), some (.lst (ws.map .int)), some (.own (ds.map .int)), some (.int l), some (.int i)], [some (.int cell), some (.int salt), some (.lst (ws.map .int)), some (.own ((ds ++ [l.fmod ws[i]]).map .int)), some (.int (l.fdiv ws[i])), some (.int i)], ?_, .inl ?_, ⟨_, _, _, ds' l, rfl⟩⟩
      · simp
      · simp [b_ldraws_0, hp, isOwn, ix, Int.ne_of_gt hwi.1, hsz, hwi.2]
    · obtain ⟨m, hm⟩ := lmixed_ok cell i salt
      refine ⟨[some (.int cell), some (.int salt), some (.lst (ws.map .int)), some (.own (ds.map .int)), some (.int l), some (.int i)], [some (.int cell), some (.int salt), some (.lst (ws.map .int)), some (.own ((ds ++ [m.fmod ws[i]]).map .int)), some (.int l), some (.int i)], ?_, .inl ?_, ⟨_, _, _, ds' m, rfl⟩⟩
      · simp
      · simp [b_ldraws_0, hp, isOwn, ix, hm, Int.ne_of_gt hwi.1, hsz]
  have e0 : inR (ws.length : Int) = true := inR_of (by omega) (by omega)
  unfold f_ldraws
  by_cases hc : (1000000000000000000 : Int) ≤ (if cell < 0 then -cell else cell)
  · obtain ⟨ρ', h, ds, l, v, hd, rfl⟩ := key (if cell < 0 then -cell else cell)
    refine ⟨ds, by simpa using hd, mFn_ok ?_⟩
    · simp [m_ldraws, szOk_small, hc, e0, h]
  · obtain ⟨ρ', h, ds, l, v, hd, rfl⟩ := key 0
    refine ⟨ds, by simpa using hd, mFn_ok ?_⟩
    · simp [m_ldraws, szOk_small, hc, e0, h]
theorem draws_nil {ds : List Int} : DrawsAre [] ds ↔ ds = [] := by
  constructor
  · intro h; exact List.length_eq_zero_iff.mp h.1
  · rintro rfl; exact ⟨rfl, by simp⟩
theorem draws_cons {w : Int} {ws ds : List Int} : DrawsAre (w :: ws) ds ↔ ∃ d r, ds = d :: r ∧ (0 ≤ d ∧ d < w) ∧ DrawsAre ws r := by
  constructor
  · intro h
    match ds, h with
    | [], h => exact absurd h.1 (by simp)
    | d :: r, h =>
      refine ⟨d, r, rfl, h.2 0 (by simp) (by simp), by simpa using h.1, fun i h1 h2 => ?_⟩
      exact h.2 (i + 1) (by simpa using h1) (by simpa using h2)
  · rintro ⟨d, r, rfl, h1, h2⟩
    refine ⟨by simpa using h2.1, fun i a b => ?_⟩
    match i with
    | 0 => exact h1
    | i + 1 => exact h2.2 i (by simpa using a) (by simpa using b)
theorem divOk_small {w : Int} (h : 0 < w) (h2 : w < 2 ^ 29) : divOk w = true := by
  unfold divOk
  have : w.natAbs < 1073741824 := by omega
  simp [this]; omega
def most (n : Nat) (sg : Str) : Int := if sg = "tens" then 5 * 10 ^ (n - 1) - 1 else 10 ^ n - 1
section
variable {kd sg : Str} {n : Nat} {p : MV}
theorem at2 {a b c d : MV} : atI [a, b, c, d] 2 = some c := rfl
end
def fB (fr : Nat) (ws : List Str) (rs : List MV) (tab : Str → MV) : List (Str × MV) := [("rows", .own rs), ("tables", .own (ws.map tab)), ("worths", .own (ws.map MV.fnc)), ("free", .int fr)]
def Bo (fr : Nat) (ws : List Str) (rs : List MV) (tab : Str → MV) : MV := .obj "Builder" (fB fr ws rs tab)
section
variable {fr : Nat} {ws : List Str} {rs : List MV} {tab : Str → MV} {ρ : Env} {r x y z : Option MV}
@[simp] theorem Bo_held : (Bo fr ws rs tab).held = true := nr rfl
@[simp] theorem Bo_fold : MV.obj (Str.ofString "Builder") (fB fr ws rs tab) = Bo fr ws rs tab := nr rfl
@[simp] theorem lk_rows : (fB fr ws rs tab).lookup (Str.ofString "rows") = some (.own rs) := nr rfl
@[simp] theorem lk_tables : (fB fr ws rs tab).lookup (Str.ofString "tables") = some (.own (ws.map tab)) := nr rfl
@[simp] theorem lk_worths : (fB fr ws rs tab).lookup (Str.ofString "worths") = some (.own (ws.map MV.fnc)) := nr rfl
@[simp] theorem lk_free : (fB fr ws rs tab).lookup (Str.ofString "free") = some (.int fr) := nr rfl
@[simp] theorem lk_cell : (fB fr ws rs tab).lookup (Str.ofString "cell") = none := nr rfl
@[simp] theorem lk_put : (fB fr ws rs tab).lookup (Str.ofString "put") = none := nr rfl
@[simp] theorem lk_row : (fB fr ws rs tab).lookup (Str.ofString "row") = none := nr rfl
@[simp] theorem lk_look : (fB fr ws rs tab).lookup (Str.ofString "look") = none := nr rfl
@[simp] theorem lk_copied : (fB fr ws rs tab).lookup (Str.ofString "copied") = none := nr rfl
@[simp] theorem lk_looked : (fB fr ws rs tab).lookup (Str.ofString "looked") = none := nr rfl
@[simp] theorem lk_ended : (fB fr ws rs tab).lookup (Str.ofString "ended") = none := nr rfl
@[simp] theorem lk_program : (fB fr ws rs tab).lookup (Str.ofString "program") = none := nr rfl
@[simp] theorem lk_back_to : (fB fr ws rs tab).lookup (Str.ofString "back_to") = none := nr rfl
@[simp] theorem put_rows {zs : List MV} : putM (Str.ofString "rows") (.own zs) (fB fr ws rs tab) = fB fr ws zs tab := nr rfl
@[simp] theorem put_free {k : Nat} : putM (Str.ofString "free") (.int k) (fB fr ws rs tab) = fB k ws rs tab := nr rfl
@[simp] theorem put_free1 : putM (Str.ofString "free") (.int ((fr : Int) + 1)) (fB fr ws rs tab) = fB (fr + 1) ws rs tab := nr rfl
@[simp] theorem fB_len : (fB fr ws rs tab).length = 4 := nr rfl
def lkW (ws : List Str) (w : Str) : List Str := if w ∈ ws then ws else ws ++ [w]
def lkI (ws : List Str) (w : Str) : Nat := (lkW ws w).findIdx fun z => decide (z = w)
end
def w01 (p : Bool) : Nat := if p then 1 else 0
def wtab : List (Str × (Nat → Nat)) := [
  ("sign_below", fun b => w01 (decide (b % 16 = 11 ∨ b % 16 = 13))),
  ("five_on", fun b => w01 (decide (4 < b))),
  ("ten_or_none", fun b => 10 * w01 (decide (0 < b))),
  ("nine_less", fun b => if 9 < b ∧ b < 20 then 19 - b else b),
  ("ahead_of_last", fun b => b / 10),
  ("last_figure", fun b => b % 10),
  ("high_half", fun b => b / 16),
  ("low_half", fun b => b % 16),
  ("one_or_none", fun b => w01 (decide (0 < b))),
  ("half_up", fun b => b % 16 * 16),
  ("one_of_two", fun b => w01 (decide (b % 4 = 1 ∨ b % 4 = 2))),
  ("not_all", fun b => w01 (decide (b < 255))),
  ("none_or_all", fun b => 255 * w01 (decide (b = 0))),
  ("lacking", fun b => (9 + 10 * 26 - b) % 10),
  ("fill", fun b => 255 * (1 - b / 128)),
  ("top_two", fun b => b / 128),
  ("other_twos", fun b => 255 - b),
  ("ten_low", fun b => 10 * b % 256),
  ("ten_high", fun b => 10 * b / 256),
  ("six_on", fun b => w01 (decide (5 < b))),
  ("product_byte", fun b => b / 16 * (b % 16)),
  ("order_byte", fun b => if b % 4 = 0 then 1 else if b % 4 = 1 then 2 else if b % 4 = 2 then 1 else 0),
  ("one_of_none", fun b => w01 (decide (b = 0))),
  ("lowest_two", fun b => b % 2),
  ("all_or_none", fun b => 255 * w01 (decide (0 < b)))]
def worthV (w : Str) (b : Nat) : Nat := match wtab.lookup w with | some g => g b | none => 0
def tabW (w : Str) : MV := .tup ((List.range 256).map fun b => .int (worthV w b))
inductive Rw where
  | put (a v : Nat) | copy (a b : Nat) | look (a k : Nat) | add (a b : Nat) | addc (a b : Nat) | and_ (a b : Nat) | or_ (a b : Nat) | left (a : Nat) | right (a : Nat) | mark (v : Nat)
def enR : Rw → MV
  | .put a v => .tup [.str "put", .int a, .int v]
  | .copy a b => .tup [.str "copy", .int a, .int b]
  | .look a k => .tup [.str "look", .int a, .int k]
  | .add a b => .tup [.str "add", .int a, .int b]
  | .addc a b => .tup [.str "addc", .int a, .int b]
  | .and_ a b => .tup [.str "and", .int a, .int b]
  | .or_ a b => .tup [.str "or", .int a, .int b]
  | .left a => .tup [.str "left", .int a]
  | .right a => .tup [.str "right", .int a]
  | .mark v => .tup [.str "mark", .int v]
def cg (c : List Nat) (i : Nat) : Nat := c.getD i 0
def Cells (c : List Nat) : Prop := c.length = 256 ∧ ∀ i, cg c i < 256
def TabLt (tb : Nat → Nat → Nat) (nt : Nat) : Prop := ∀ k v, k < nt → v < 256 → tb k v < 256
theorem cg_set {c : List Nat} {a v i : Nat} : cg (c.set a v) i = if i = a ∧ a < c.length then v else cg c i := by
  unfold cg
  rw [List.getD_eq_getElem?_getD, List.getD_eq_getElem?_getD, List.getElem?_set]
  by_cases h : a = i
  · subst h
    by_cases h2 : a < c.length
    · simp [h2]
    · simp [h2, List.getElem?_eq_none (Nat.le_of_not_lt h2)]
  · have : ¬ (i = a) := fun e => h e.symm
    simp [h, this]
theorem Cells.set {c : List Nat} (h : Cells c) {a v : Nat} (hv : v < 256) : Cells (c.set a v) := by
  refine ⟨by rw [List.length_set]; exact h.1, fun i => ?_⟩
  rw [cg_set]
  split
  · exact hv
  · exact h.2 i
inductive Ab where
  | r (x : Rw) | lk (c : Nat) (w : Str)
def layA (s : List Str × List Rw) : Ab → List Str × List Rw
  | .r x => (s.1, s.2 ++ [x])
  | .lk c w => (lkW s.1 w, s.2 ++ [.look c (lkI s.1 w)])
def lays (as : List Ab) (s : List Str × List Rw) : List Str × List Rw := as.foldl layA s
def okAb : Ab → Bool
  | .r _ => true
  | .lk _ w => fnNames.contains w
def Gd (s : List Str × List Rw) (k : Nat) : Prop := s.1.Nodup ∧ (∀ z ∈ s.1, z ∈ fnNames) ∧ s.2.length + k < 16777216
theorem nodup_le : ∀ {l m : List Str}, l.Nodup → (∀ z ∈ l, z ∈ m) → l.length ≤ m.length
  | [], m, _, _ => Nat.zero_le _
  | a :: l, m, h, hs => by
    obtain ⟨h1, h2⟩ := List.nodup_cons.mp h
    have ha := hs a (by simp)
    have ih := @nodup_le l (m.erase a) h2 (fun z hz => by
      have ne : z ≠ a := fun e => h1 (by rw [← e]; exact hz)
      exact (List.mem_erase_of_ne ne).mpr (hs z (List.mem_cons_of_mem _ hz)))
    rw [List.length_erase_of_mem ha] at ih
    have := List.length_pos_of_mem ha
    simp; omega
theorem Gd.len {s : List Str × List Rw} {k : Nat} (h : Gd s k) : s.1.length < 100 := by
  have h1 : s.1.length ≤ fnNames.length := nodup_le h.1 fun z hz => h.2.1 z hz
  have h2 : fnNames.length < 100 := by decide +kernel
  omega
theorem Gd.less {s : List Str × List Rw} {k j : Nat} (h : Gd s k) (hj : j ≤ k) : Gd s j := ⟨h.1, h.2.1, by have := h.2.2; omega⟩
theorem layA_len (s : List Str × List Rw) (a : Ab) : (layA s a).2.length = s.2.length + 1 := by cases a <;> simp [layA]
theorem lkW_nodup {ws : List Str} {w : Str} (h : ws.Nodup) : (lkW ws w).Nodup := by
  unfold lkW
  split
  · exact h
  · rename_i hn
    rw [List.nodup_append]
    refine ⟨h, by simp, ?_⟩
    intro a ha b hb e
    rw [List.mem_singleton.mp hb] at e
    exact hn (e ▸ ha)
theorem Gd.step {s : List Str × List Rw} {k : Nat} (h : Gd s (k + 1)) {a : Ab} (ha : okAb a = true) : Gd (layA s a) k := by
  refine ⟨?_, ?_, by rw [layA_len]; have := h.2.2; omega⟩
  · cases a with
    | r x => exact h.1
    | lk c w => exact lkW_nodup h.1
  · cases a with
    | r x => exact h.2.1
    | lk c w =>
      intro z hz
      have hw : w ∈ fnNames := List.contains_iff_mem.mp ha
      simp only [layA] at hz
      unfold lkW at hz
      split at hz
      · exact h.2.1 z hz
      · rcases List.mem_append.mp hz with hz | hz
        · exact h.2.1 z hz
        · rw [List.mem_singleton.mp hz]; exact hw
theorem Gd.lays {k : Nat} : ∀ {as : List Ab} {s : List Str × List Rw}, Gd s (as.length + k) → as.all okAb = true → Gd (lays as s) k
  | [], s, h, _ => by simpa [Tm.lays] using h
  | a :: as, s, h, ha => by
    rw [List.all_cons, Bool.and_eq_true] at ha
    have h1 : Gd (layA s a) (as.length + k) := Gd.step (h.less (by simp; omega)) ha.1
    show Gd (Tm.lays as (layA s a)) k
    exact Gd.lays h1 ha.2
def bS (fr : Nat) (s : List Str × List Rw) : MV := Bo fr s.1 (s.2.map enR) tabW
section
variable {fr : Nat} {s : List Str × List Rw} {ρ : Env} {x y z : Option MV}
@[simp] theorem bS_held : (bS fr s).held = true := nr rfl
end
theorem nm (w : Str) (h : fnNames.contains w = true) : w ∈ fnNames := List.contains_iff_mem.mp h
theorem seq_nx {a b : MS} {ρ ρ1 : Env} {R : Res (Fl × Env)} (h : a ρ = .ok (.nx, ρ1)) (h2 : b ρ1 = R) : mSeq a b ρ = R := by
  show (a ρ).bind _ = R
  rw [h]; exact h2
def w2 : List MV := [.str "left", .str "right"]
theorem cbE_b2 {f : MF} {x v : MV} {ys : List MV} {args : List BA} {ρ : Env} {r q y : Option MV} (h : x.held = true) (hf : fill args (r :: q :: some x :: ρ) = some ys) (hi : idxB args = []) (en : f (x :: ys) = .ok (v, [y])) : cbE f (.b 2 :: args) (r :: q :: some x :: ρ) = .ok (v, r :: q :: y :: ρ) := by
  rw [cbE_ap]
  have e : fill (.b 2 :: args) (r :: q :: some x :: ρ) = some (x :: ys) := by
    rw [fill_b, hf]
    simp [h]
  rw [e]
  show (match f (x :: ys) with | .ok (v, os) => _ | .exc e os => _ | .stuck => _) = _
  rw [en]
  rw [idxB_b, hi]
  rfl
section
variable {f : MF} {fr fr' : Nat} {s s' : List Str × List Rw} {a b c d v : MV}
theorem cd1 (en : f [bS fr s, a] = .ok (v, [some (bS fr' s')])) (r q : Option MV) (ρ : Env) : cbE f [.b 2, .v a] (r :: q :: some (bS fr s) :: ρ) = .ok (v, r :: q :: some (bS fr' s') :: ρ) := cbE_b2 rfl rfl rfl en
theorem cd2 (en : f [bS fr s, a, b] = .ok (v, [some (bS fr' s')])) (r q : Option MV) (ρ : Env) : cbE f [.b 2, .v a, .v b] (r :: q :: some (bS fr s) :: ρ) = .ok (v, r :: q :: some (bS fr' s') :: ρ) := cbE_b2 rfl rfl rfl en
theorem cd3 (en : f [bS fr s, a, b, c] = .ok (v, [some (bS fr' s')])) (r q : Option MV) (ρ : Env) : cbE f [.b 2, .v a, .v b, .v c] (r :: q :: some (bS fr s) :: ρ) = .ok (v, r :: q :: some (bS fr' s') :: ρ) := cbE_b2 rfl rfl rfl en
theorem cd4 (en : f [bS fr s, a, b, c, d] = .ok (v, [some (bS fr' s')])) (r q : Option MV) (ρ : Env) : cbE f [.b 2, .v a, .v b, .v c, .v d] (r :: q :: some (bS fr s) :: ρ) = .ok (v, r :: q :: some (bS fr' s') :: ρ) := cbE_b2 rfl rfl rfl en
end
structure Bs (L : List Str) : Prop where
  ah : ("ahead_of_last" : Str) ∈ L
  la : ("last_figure" : Str) ∈ L
  ni : ("nine_less" : Str) ∈ L
  hi : ("high_half" : Str) ∈ L
  lo : ("low_half" : Str) ∈ L
  up : ("half_up" : Str) ∈ L
  te : ("ten_or_none" : Str) ∈ L
  fi : ("five_on" : Str) ∈ L
  on : ("one_or_none" : Str) ∈ L
  be : ("sign_below" : Str) ∈ L
  tw : ("one_of_two" : Str) ∈ L
theorem ok2 {a b : Nat} (ha : a < 256) (hb : b < 256) : (decide (a < 256) && decide (b < 256)) = true := by rw [decide_eq_true ha, decide_eq_true hb]; rfl
theorem Gd.go {s : List Str × List Rw} {N : Nat} {as : List Ab} (h : Gd s N) (ok : as.all okAb = true) (k : Nat) (hl : as.length + k ≤ N) : Gd (Tm.lays as s) k := Gd.lays (h.less hl) ok
theorem log2_lt200 {a : Nat} (h : a < 2 ^ 200) : a.log2 < 200 := by
  by_cases z : a = 0
  · subst z; decide
  · exact (Nat.log2_lt z).mpr h
theorem mulOk_wide {i j : Int} (h1 : i.natAbs < 2 ^ 200) (h2 : j.natAbs < 2 ^ 200) : mulOk i j = true := by
  have := log2_lt200 h1
  have := log2_lt200 h2
  simp only [mulOk, Bool.or_eq_true, Bool.and_eq_true, decide_eq_true_eq]
  exact .inr (by omega)
theorem seq_nxE {a b : MS} {ρ ρ1 : Env} {f : Fl} (h : a ρ = .ok (.nx, ρ1)) (h2 : ∃ ρ', b ρ1 = .ok (f, ρ')) : ∃ ρ', mSeq a b ρ = .ok (f, ρ') := by
  obtain ⟨ρ', e⟩ := h2
  exact ⟨ρ', seq_nx h e⟩
structure TwW (L : List Str) : Prop where
  al : ("all_or_none" : Str) ∈ L
  no : ("none_or_all" : Str) ∈ L
  ot : ("other_twos" : Str) ∈ L
  th : ("ten_high" : Str) ∈ L
  tl : ("ten_low" : Str) ∈ L
  fi : ("fill" : Str) ∈ L
  na : ("not_all" : Str) ∈ L
  on : ("one_or_none" : Str) ∈ L
structure Ls (L : List Str) : Prop where
  ah : ("ahead_of_last" : Str) ∈ L
  la : ("last_figure" : Str) ∈ L
  ni : ("nine_less" : Str) ∈ L
  hi : ("high_half" : Str) ∈ L
  lo : ("low_half" : Str) ∈ L
  te : ("ten_or_none" : Str) ∈ L
  fi : ("five_on" : Str) ∈ L
  be : ("sign_below" : Str) ∈ L
def okN (N nt : Nat) : Rw → Bool
  | .put a v => decide (a < N) && decide (v < 256)
  | .look a k => decide (a < N) && decide (k < nt)
  | .copy a b => decide (a < N) && decide (b < N)
  | .add a b => decide (a < N) && decide (b < N)
  | .addc a b => decide (a < N) && decide (b < N)
  | .and_ a b => decide (a < N) && decide (b < N)
  | .or_ a b => decide (a < N) && decide (b < N)
  | .left a => decide (a < N)
  | .right a => decide (a < N)
  | .mark v => decide (v < 2)
def CellsN (N : Nat) (c : List Nat) : Prop := c.length = N ∧ ∀ i, cg c i < 256
theorem CellsN.set {N : Nat} {c : List Nat} (h : CellsN N c) {a v : Nat} (hv : v < 256) : CellsN N (c.set a v) := by
  refine ⟨by rw [List.length_set]; exact h.1, fun i => ?_⟩
  rw [cg_set]
  split
  · exact hv
  · exact h.2 i
def CR (c : List Nat) (m : Nat) (p : List Nat × Nat) (a : Nat) : Prop := Cells p.1 ∧ p.2 = m ∧ (∀ i, i < 252 → cg p.1 i = cg c i) ∧ cg p.1 252 = a
structure DrP (N : Nat) where
  tb : Nat → Nat → Nat
  nt : Nat
  rs : List Rw
  c : List Nat
  m : Nat
  h16 : nt ≤ 16
  tl : TabLt tb nt
  ok : rs.all (okN N nt) = true
  h48 : rs.length ≤ 48
  cn : CellsN N c
  m2 : m < 2
def nd (m : Nat) : Nat := (Nat.toDigits 10 m).length
theorem log_small7 {m : Nat} (h : m < 2 ^ 1000) : m.log2 < 1920 := by
  by_cases h0 : m = 0
  · subst h0; decide
  · have := (Nat.log2_lt h0).mpr h
    omega
inductive Rd where
  | bad (j : Nat)
  | got (rs : List (Str × List Int))
theorem join_ok {z : Str} {ss : List Str} (h : (ss.map (·.length)).sum + ss.length * z.length ≤ 16777216) : smJoin z [.lst (ss.map MV.str)] = some (.str (Txt.join z ss)) := by
  show (strsOf (ss.map MV.str)).bind (joinM z) = _
  rw [strsOf_map]
  exact if_pos (decide_eq_true h)
theorem sum_le {n : Nat} : ∀ {ss : List Str}, (∀ s ∈ ss, s.length ≤ n) → (ss.map (·.length)).sum ≤ ss.length * n
  | [], _ => by simp
  | s :: ss, h => by
    have ih := sum_le (ss := ss) fun x hx => h x (List.mem_cons_of_mem _ hx)
    have := h s (List.mem_cons_self ..)
    rw [List.map_cons, List.sum_cons, List.length_cons, Nat.succ_mul]
    omega
theorem join_ok2 {n : Nat} (z : Str) {ss : List Str} (h : ∀ s ∈ ss, s.length ≤ n) (hn : n ≤ 1000) (hz : z.length ≤ 1) (hl : ss.length ≤ 10000) : smJoin z [.lst (ss.map MV.str)] = some (.str (Txt.join z ss)) := by
  refine join_ok ?_
  have h1 := sum_le h
  have h2 : ss.length * n ≤ 10000 * 1000 := Nat.mul_le_mul hl hn
  have h3 : ss.length * z.length ≤ 10000 * 1 := Nat.mul_le_mul hl hz
  omega
theorem mLcO_it {α : Type} {it : MI} {e : ME} {v : Nat} {ρ : Env} {l : List α} (item y : α → MV) (hi : it ρ = .ok (l.map item, ρ)) (hv : ρ[v]? = some none) (he : ∀ a ∈ l, e (ρ.set v (some (item a))) = .ok (y a, ρ.set v (some (item a)))) (hz : l.length ≤ sizeLine) :
    mLcO it (.nm v) mYes e [v] ρ = .ok (.own (l.map y), ρ) := by
  have := mLcO_nm (it := it) (e := e) (v := v) (ρ := ρ) (xs := l.map item) (fun z => match e (ρ.set v (some z)) with | .ok (r, _) => r | _ => .non) hi hv (fun x hx => by
    obtain ⟨a, ha, rfl⟩ := List.mem_map.mp hx
    rw [he a ha]) (by rw [List.length_map]; exact hz)
  rw [this, List.map_map]
  congr 3
  refine List.map_congr_left fun a ha => ?_
  show (match e (ρ.set v (some (item a))) with | .ok (r, _) => r | _ => .non) = y a
  rw [he a ha]
def okJ : Nat → MV → Bool
  | _, .non => true
  | _, .bl _ => true
  | _, .int _ => true
  | _, .str _ => true
  | n + 1, .tup xs => xs.all (okJ n) && decide (xs.length ≤ 1000)
  | _, _ => false
theorem zipM_self : ∀ xs : List MV, zipM xs xs = xs.map fun x => .tup [x, x]
  | [] => rfl
  | x :: xs => by
    show _ :: zipM xs xs = _
    rw [zipM_self xs]; rfl
theorem blsOf_true : ∀ n : Nat, blsOf (List.replicate n (.bl true)) = some (List.replicate n true)
  | 0 => rfl
  | n + 1 => by
    rw [List.replicate_succ]
    simp only [blsOf, blsOf_true n]
    rfl
theorem map_const_true (xs : List MV) : xs.map (fun _ => MV.bl true) = List.replicate xs.length (.bl true) := by
  induction xs with
  | nil => rfl
  | cons x xs ih => rw [List.map_cons, ih]; rfl
theorem just_self : ∀ (n : Nat) (x : MV), okJ n x = true → mRec 4 [] m_ljust (n + 1) [x, x] = .ok (.bl true, [])
  | n, .non, _ => by
    refine mFn_ok ?_
    simp [m_ljust, bIsi, MV.kd, kdOf, Kd.isa, fIsN, MV.isN, fEq, eqM, scalM, sameM]
  | n, .bl b, _ => by
    refine mFn_ok ?_
    simp [m_ljust, bIsi, MV.kd, kdOf, Kd.isa, fIsN, MV.isN, fEq, fNe, eqM, scalM, sameM]
  | n, .int i, _ => by
    refine mFn_ok ?_
    simp [m_ljust, bIsi, MV.kd, kdOf, Kd.isa, fIsN, MV.isN, fEq, fNe, eqM, scalM, sameM]
  | n, .str s, _ => by
    refine mFn_ok ?_
    simp [m_ljust, bIsi, MV.kd, kdOf, Kd.isa, fIsN, MV.isN, fEq, fNe, eqM, scalM, sameM]
  | 0, .tup _, h => by simp [okJ] at h
  | n + 1, .tup xs, h => by
    refine mFn_ok ?_
    simp only [okJ, Bool.and_eq_true, decide_eq_true_eq] at h
    have key : mLcO (mZip (mCons (mVar 0) (mCons (mVar 1) (mNil)))) (.tp [2, 3]) (mYes) (mFz (mCall0 (mRec 4 [] m_ljust (n + 1)) (mCons (mVar 2) (mCons (mVar 3) (mNil))))) [2, 3] [some (.tup xs), some (.tup xs), none, none] =   .ok (.own (List.replicate xs.length (.bl true)), [some (.tup xs), some (.tup xs), none, none]) := by
      rw [← show (xs.map fun x => MV.tup [x, x]).map (fun _ => MV.bl true) = List.replicate xs.length (.bl true) by rw [map_const_true, List.length_map]]
      refine mLcO_map (fun _ => .bl true) (by simp [zipM_self]) (by simp [perAt]) ?_ (by rw [sizeLine_eq, List.length_map]; omega)
      intro z hz
      obtain ⟨x, hx, rfl⟩ := List.mem_map.mp hz
      have ih := just_self n x (List.all_eq_true.mp h.1 x hx)
      have hh := List.all_eq_true.mp h.1 x hx
      refine ⟨[some (.tup xs), some (.tup xs), some x, some x], by simp [setT, setAll, wipeM], ?_, by simp [wipeM], by simp⟩
      cases x <;> first | (exfalso; cases n <;> simp [okJ] at hh; done) | simp [ih]
    simp [m_ljust, bIsi, MV.kd, kdOf, Kd.isa, key, bAll, blsOf_true]
  | n, .lst _, h => by cases n <;> simp [okJ] at h
  | n, .own _, h => by cases n <;> simp [okJ] at h
  | n, .raw _, h => by cases n <;> simp [okJ] at h
  | n, .scr _, h => by cases n <;> simp [okJ] at h
  | n, .obj _ _, h => by cases n <;> simp [okJ] at h
  | n, .fnc _, h => by cases n <;> simp [okJ] at h
  | n, .dct _ _, h => by cases n <;> simp [okJ] at h
  | n, .dow _ _, h => by cases n <;> simp [okJ] at h
  | n, .dot _ _, h => by cases n <;> simp [okJ] at h
  | n, .ols _, h => by cases n <;> simp [okJ] at h
  | n, .exn _ _, h => by cases n <;> simp [okJ] at h
def Th98 (x : MV) : Prop := (∃ i : Int, x = .int i ∧ i.natAbs < 2 ^ 1000) ∨ ∃ s : Str, x = .str s
def Sg98 : Str := "abcdefghijklmnopqrstuvwxyzABCDEFGHIJKLMNOPQRSTUVWXYZ 0123456789.-"
def ch98 (k : Int) : Str := match fIx (.str Sg98) (.int k) with
  | some (.str s) => s
  | _ => Str.empty
theorem ch98_nat : ∀ k : Nat, k < 65 → (match fIx (.str Sg98) (.int k) with | some (.str s) => decide (s.length ≤ 1) | _ => false) = true := by decide +kernel
theorem ch98_ok {k : Int} (h : 0 ≤ k ∧ k < 65) : fIx (.str Sg98) (.int k) = some (.str (ch98 k)) ∧ (ch98 k).length ≤ 1 := by
  have e := ch98_nat k.toNat (by omega)
  rw [show ((k.toNat : Nat) : Int) = k by omega] at e
  unfold ch98
  split at e
  · rename_i s q
    rw [q]
    exact ⟨rfl, of_decide_eq_true e⟩
  · cases e
theorem lthing98 (cell salt : Int) : ∃ x, Th98 x ∧ f_lthing [.int cell, .int salt] = .ok (x, []) := by
  obtain ⟨ds, hd, e⟩ := ldraws_ok cell salt [4, 9, 10000000000000000000000000000000000000000] (by decide) (by decide +kernel)
  simp only [draws_cons, draws_nil] at hd
  obtain ⟨d0, _, rfl, h0, d1, _, rfl, h1, d2, _, rfl, h2, rfl⟩ := hd
  have e' : f_ldraws [.int cell, .int salt, .lst [.int 4, .int 9, .int 10000000000000000000000000000000000000000]] = .ok (.own [.int d0, .int d1, .int d2], []) := e
  have fp : fPow (.int 10) (.int 40) = some (.int 10000000000000000000000000000000000000000) := rfl
  obtain ⟨k, rfl⟩ : ∃ k : Nat, d1 = k := ⟨d1.toNat, by omega⟩
  have st : ∀ r2, mAsg (mFz (mCall f_ldraws (mCons (mVar 0) (mCons (mVar 1) (mCons (mLst (mCons (mC (.int 4)) (mCons (mC (.int 9)) (mCons (mOp fPow (mC (.int 10)) (mC (.int 40))) (mNil))))) (mNil)))))) (gTp 3 (gsCons (gSet 3) (gsCons (gSet 4) (gsCons (gSet 5) (gsNil))))) [some (.int cell), some (.int salt), r2, none, none, none, none] = .ok (.nx, [some (.int cell), some (.int salt), r2, some (.int d0), some (.int k), some (.int d2), none]) := fun r2 => by
    simp [fp, e', szOk_small]
  have big : d2.natAbs < 2 ^ 1000 := Nat.lt_trans (m := 10000000000000000000000000000000000000000) (by omega) (by decide +kernel)
  by_cases c : d0 < 2
  · refine ⟨.int (d2 * (1 - 2 * d0)), .inl ⟨_, rfl, ?_⟩, mFn_ok ?_⟩
    · rcases (by omega : d0 = 0 ∨ d0 = 1) with rfl | rfl
      · simpa using big
      · have : (d2 * (1 - 2 * 1)).natAbs = d2.natAbs := by omega
        rw [this]; exact big
    · show ∃ ρ, m_lthing [some (.int cell), some (.int salt), none, none, none, none, none] = _
      unfold m_lthing
      refine seq_nxE (st none) ?_
      have m1 := mulOk_wide (i := 2) (j := d0) (by decide) (by omega)
      have m2 := mulOk_wide (i := d2) (j := 1 - 2 * d0) (by omega) (by omega)
      simp [c, m1, m2]
  · refine ⟨.str (Txt.join (Str.ofString "") ((List.range k).map fun i : Nat => ch98 ((d2.fdiv ((i : Int) + 1)).fmod 65))), .inr ⟨_, rfl⟩, mFn_ok ?_⟩
    have jn : smJoin (Str.ofString "") [.lst (((List.range k).map fun i : Nat => ch98 ((d2.fdiv ((i : Int) + 1)).fmod 65)).map .str)] = some (.str (Txt.join (Str.ofString "") ((List.range k).map fun i : Nat => ch98 ((d2.fdiv ((i : Int) + 1)).fmod 65)))) := join_ok2 (n := 1) _ (fun s hs => by
      obtain ⟨i, hi, rfl⟩ := List.mem_map.mp hs
      exact (ch98_ok ⟨Int.fmod_nonneg_of_pos _ (by decide), Int.fmod_lt_of_pos _ (by decide)⟩).2) (by decide) (by decide) (by rw [List.length_map, List.length_range]; omega)
    have lc : mLcO (mR1 (mCons (mVar 4) (mNil))) (.nm 6) (mYes) (mOp fIx (mVar 2) (mOp fMod (mOp fDiv (mVar 5) (mOp fAdd (mVar 6) (mC (.int 1)))) (mC (.int 65)))) [6] [some (.int cell), some (.int salt), some (.str Sg98), some (.int d0), some (.int k), some (.int d2), none] =
        .ok (.own (((List.range k).map fun i : Nat => ch98 ((d2.fdiv ((i : Int) + 1)).fmod 65)).map .str), [some (.int cell), some (.int salt), some (.str Sg98), some (.int d0), some (.int k), some (.int d2), none]) := by
      rw [List.map_map]
      refine mLcO_it (l := List.range k) (fun i : Nat => .int (i : Int)) (fun i : Nat => .str (ch98 ((d2.fdiv ((i : Int) + 1)).fmod 65))) ?_ rfl (fun i hi => ?_) (by rw [List.length_range, sizeLine_eq]; omega)
      · have hr : inR (k : Int) = true := inR_of (by omega) (by omega)
        generalize Sg98 = S
        have q : rngM 0 1 k = (List.range k).map fun i : Nat => MV.int (i : Int) := by
          unfold rngM
          refine List.map_congr_left fun i _ => ?_
          rw [Int.zero_add, Int.mul_one]
        simp [hr, q]
      · have hi2 : i < k := List.mem_range.mp hi
        have q := (ch98_ok (k := (d2.fdiv ((i : Int) + 1)).fmod 65) ⟨Int.fmod_nonneg_of_pos _ (by decide), Int.fmod_lt_of_pos _ (by decide)⟩).1
        have dv : divOk ((i : Int) + 1) = true := divOk_small (by omega) (by omega)
        generalize Sg98 = S at *
        simp [dv, q]
    show ∃ ρ, m_lthing [some (.int cell), some (.int salt), none, none, none, none, none] = _
    unfold m_lthing
    refine seq_nxE (st none) ?_
    refine seq_nxE (ρ1 := [some (.int cell), some (.int salt), none, some (.int d0), some (.int k), some (.int d2), none]) (by simp [c]) ?_
    refine seq_nxE (ρ1 := [some (.int cell), some (.int salt), some (.str Sg98), some (.int d0), some (.int k), some (.int d2), none]) rfl ?_
    generalize ((List.range k).map fun i : Nat => ch98 ((d2.fdiv ((i : Int) + 1)).fmod 65)).map MV.str = XS at *
    generalize Txt.join (Str.ofString "") ((List.range k).map fun i : Nat => ch98 ((d2.fdiv ((i : Int) + 1)).fmod 65)) = T at *
    generalize mLcO (mR1 (mCons (mVar 4) (mNil))) (.nm 6) (mYes) (mOp fIx (mVar 2) (mOp fMod (mOp fDiv (mVar 5) (mOp fAdd (mVar 6) (mC (.int 1)))) (mC (.int 65)))) [6] = LC at *
    generalize Sg98 = S at *
    simp [lc, smE_ok jn]
def exc98 (w : Nat) (x y : MV) : Str × List (Str × MV) := match w with
  | 0 => ("NoShape", [("part", x)])
  | 1 => ("NoFit", [("number", x)])
  | 2 => ("Wrong", [("why", y), ("place", x)])
  | 3 => ("NoTable", [("at", x)])
  | 4 => ("NoRow", [("at", x)])
  | 5 => ("BadLine", [("at", x)])
  | 6 => ("TooLong", [("number", x)])
  | 7 => ("NoRule", [("rule", x)])
  | 8 => ("NoDeed", [("deed", x)])
  | 9 => ("NoName", [("name", x)])
  | 10 => ("NoText", [])
  | 11 => ("Nought", [])
  | 12 => ("Unlike", [])
  | 13 => ("NoLine", [])
  | _ => ("NothingDone", [])
theorem fifteen {w : Nat} (h : w < 15) : w = 0 ∨ w = 1 ∨ w = 2 ∨ w = 3 ∨ w = 4 ∨ w = 5 ∨ w = 6 ∨ w = 7 ∨ w = 8 ∨ w = 9 ∨ w = 10 ∨ w = 11 ∨ w = 12 ∨ w = 13 ∨ w = 14 := by omega
theorem lraised_exc {w : Nat} {x y : MV} (h : w < 10) (hx : Th98 x) (hy : Th98 y) : f_lraised [.int w, x, y] = .exc ⟨(exc98 w x y).1, (exc98 w x y).2⟩ [] := by
  refine mFn_exc ?_
  rcases fifteen (by omega : w < 15) with rfl | rfl | rfl | rfl | rfl | rfl | rfl | rfl | rfl | rfl | rfl | rfl | rfl | rfl | rfl <;> first | omega | skip
  all_goals
    rcases hx with ⟨i, rfl, _⟩ | ⟨s, rfl⟩ <;> rcases hy with ⟨j, rfl, _⟩ | ⟨t, rfl⟩ <;> exact ⟨_, rfl⟩
theorem lraised_no {w : Nat} {x y : MV} (h : 10 ≤ w ∧ w < 15) (hx : Th98 x) (hy : Th98 y) : f_lraised [.int w, x, y] = .ok (.non, []) := by
  refine mFn_ok ?_
  rcases (by omega : w = 10 ∨ w = 11 ∨ w = 12 ∨ w = 13 ∨ w = 14) with rfl | rfl | rfl | rfl | rfl <;> exact ⟨_, rfl⟩
theorem lraised_text {w : Nat} {x y : MV} {s : Str} (h : 10 ≤ w ∧ w < 15) : f_lraised_of_text [.int w, .str s] = .exc ⟨(exc98 w x y).1, (exc98 w x y).2⟩ [] := by
  refine mFn_exc ?_
  rcases (by omega : w = 10 ∨ w = 11 ∨ w = 12 ∨ w = 13 ∨ w = 14) with rfl | rfl | rfl | rfl | rfl <;> exact ⟨_, rfl⟩
theorem th_str {x : MV} (h : Th98 x) : ∃ s, bStrA [x] = some (.str s) := by
  rcases h with ⟨i, rfl, hi⟩ | ⟨s, rfl⟩
  · exact ⟨_, if_pos (decide_eq_true (log_small7 hi))⟩
  · exact ⟨s, rfl⟩
theorem tryV_exc {i j : Nat} {tab : List (Str × Bool)} {mb : MS} {ρ ρ1 : Env} {e : MX} (h0 : ρ.all flatO = true) (hm : mb ρ = .exc e ρ1) (h1 : ρ1.all flatO = true) (hl : tab.lookup e.cls = some true) (hi : i < ρ1.length) (hj : j < ρ1.length) (hf : e.fs.all (fun p => flatM p.2) = true) :
    mTryV i j tab mb ρ = .ok (.nx, (ρ1.set i none).set j (some (.exn e.cls e.fs))) := by
  unfold mTryV
  rw [if_pos h0, hm]
  simp only
  rw [if_pos h1, hl]
  simp only
  rw [if_pos (by rw [decide_eq_true hi, decide_eq_true hj, hf]; rfl)]
theorem th_flat {x : MV} (h : Th98 x) : flatM x = true := by rcases h with ⟨i, rfl, _⟩ | ⟨s, rfl⟩ <;> rfl
theorem exc_flat {w : Nat} {x y : MV} (h : w < 15) (hx : Th98 x) (hy : Th98 y) : (exc98 w x y).2.all (fun p => flatM p.2) = true := by
  have fx := th_flat hx
  have fy := th_flat hy
  rcases fifteen h with rfl | rfl | rfl | rfl | rfl | rfl | rfl | rfl | rfl | rfl | rfl | rfl | rfl | rfl | rfl <;> simp [exc98, fx, fy]
theorem lmet98 {w : Nat} {x y : MV} (h : w < 15) (hx : Th98 x) (hy : Th98 y) : f_lmet [.int w, x, y] = .ok (.exn (exc98 w x y).1 (exc98 w x y).2, []) := by
  have fx := th_flat hx
  have fy := th_flat hy
  have vx : ∀ ρ : Env, ρ[1]? = some (some x) → mVar 1 ρ = .ok (x, ρ) := fun ρ q => by
    unfold mVar
    rw [q]
    rcases hx with ⟨i, rfl, _⟩ | ⟨s, rfl⟩ <;> rfl
  have vy : ∀ ρ : Env, ρ[2]? = some (some y) → mVar 2 ρ = .ok (y, ρ) := fun ρ q => by
    unfold mVar
    rw [q]
    rcases hy with ⟨i, rfl, _⟩ | ⟨s, rfl⟩ <;> rfl
  have lk : ([("BadLine", true), ("NoDeed", true), ("NoFit", true), ("NoLine", true), ("NoName", true), ("NoRow", true), ("NoRule", true), ("NoShape", true), ("NoTable", true), ("NoText", true), ("NothingDone", true), ("Nought", true), ("TooLong", true), ("Unlike", true), ("Wrong", true)] : List (Str × Bool)).lookup (exc98 w x y).1 = some true := by
    rcases fifteen h with rfl | rfl | rfl | rfl | rfl | rfl | rfl | rfl | rfl | rfl | rfl | rfl | rfl | rfl | rfl <;> rfl
  have cf := exc_flat h hx hy
  obtain ⟨s, hs⟩ := th_str hx
  have body : b_lmet_0 [some (.int w), some x, some y, some .non, none] = .exc ⟨(exc98 w x y).1, (exc98 w x y).2⟩ [some (.int w), some x, some y, some .non, none] := by
    have v1 := vx [some (.int w), some x, some y, some .non, none] rfl
    have v2 := vy [some (.int w), some x, some y, some .non, none] rfl
    unfold b_lmet_0
    by_cases c : w < 10
    · have r := lraised_exc c hx hy
      generalize (exc98 w x y).1 = C at *
      generalize (exc98 w x y).2 = fs at *
      simp [v1, v2, r]
    · have r := lraised_no (w := w) ⟨by omega, h⟩ hx hy
      have t := lraised_text (w := w) (x := x) (y := y) (s := s) ⟨by omega, h⟩
      generalize (exc98 w x y).1 = C at *
      generalize (exc98 w x y).2 = fs at *
      simp [v1, v2, r, hs, t]
  refine mFn_ok ⟨[some (.int w), some x, some y, some (.exn (exc98 w x y).1 (exc98 w x y).2), none], ?_⟩
  show m_lmet [some (.int w), some x, some y, none, none] = _
  unfold m_lmet
  refine seq_nx (ρ1 := [some (.int w), some x, some y, some .non, none]) rfl ?_
  have fl : ([some (.int w), some x, some y, some .non, none] : Env).all flatO = true := by
    simp [flatO, fx, fy]
    rfl
  have tr := tryV_exc (i := 4) (j := 3) (e := ⟨(exc98 w x y).1, (exc98 w x y).2⟩) fl body fl lk (by simp) (by simp) cf
  exact seq_nx tr rfl
theorem lsort98_0 (fs : List (Str × MV)) : f_lsorts2 [.exn "NoShape" fs] = .ok (.str "NoShape", []) := by kernel_rfl
theorem lsort98_1 (fs : List (Str × MV)) : f_lsorts2 [.exn "NoFit" fs] = .ok (.str "NoFit", []) := by kernel_rfl
theorem lsort98_2 (fs : List (Str × MV)) : f_lsorts2 [.exn "Wrong" fs] = .ok (.str "Wrong", []) := by kernel_rfl
theorem lsort98_3 (fs : List (Str × MV)) : f_lsorts2 [.exn "NoTable" fs] = .ok (.str "NoTable", []) := by kernel_rfl
theorem lsort98_4 (fs : List (Str × MV)) : f_lsorts2 [.exn "NoRow" fs] = .ok (.str "NoRow", []) := by kernel_rfl
theorem lsort98_5 (fs : List (Str × MV)) : f_lsorts2 [.exn "BadLine" fs] = .ok (.str "BadLine", []) := by kernel_rfl
theorem lsort98_6 (fs : List (Str × MV)) : f_lsorts2 [.exn "TooLong" fs] = .ok (.str "TooLong", []) := by kernel_rfl
theorem lsort98_7 (fs : List (Str × MV)) : f_lsorts2 [.exn "NoRule" fs] = .ok (.str "NoRule", []) := by kernel_rfl
theorem lsort98_8 (fs : List (Str × MV)) : f_lsorts2 [.exn "NoDeed" fs] = .ok (.str "NoDeed", []) := by kernel_rfl
theorem lsort98_9 (fs : List (Str × MV)) : f_lsorts2 [.exn "NoName" fs] = .ok (.str "NoName", []) := by kernel_rfl
theorem lsort98_10 (fs : List (Str × MV)) : f_lsorts2 [.exn "NoText" fs] = .ok (.str "NoText", []) := by kernel_rfl
theorem lsort98_11 (fs : List (Str × MV)) : f_lsorts2 [.exn "Nought" fs] = .ok (.str "Nought", []) := by kernel_rfl
theorem lsort98_12 (fs : List (Str × MV)) : f_lsorts2 [.exn "Unlike" fs] = .ok (.str "Unlike", []) := by kernel_rfl
theorem lsort98_13 (fs : List (Str × MV)) : f_lsorts2 [.exn "NoLine" fs] = .ok (.str "NoLine", []) := by kernel_rfl
theorem lsort98_14 (fs : List (Str × MV)) : f_lsorts2 [.exn "NothingDone" fs] = .ok (.str "NothingDone", []) := by kernel_rfl
theorem lsorts98 {w : Nat} {x y : MV} (h : w < 15) : f_lsorts2 [.exn (exc98 w x y).1 (exc98 w x y).2] = .ok (.str (exc98 w x y).1, []) := by
  rcases fifteen h with rfl | rfl | rfl | rfl | rfl | rfl | rfl | rfl | rfl | rfl | rfl | rfl | rfl | rfl | rfl
  · exact lsort98_0 _
  · exact lsort98_1 _
  · exact lsort98_2 _
  · exact lsort98_3 _
  · exact lsort98_4 _
  · exact lsort98_5 _
  · exact lsort98_6 _
  · exact lsort98_7 _
  · exact lsort98_8 _
  · exact lsort98_9 _
  · exact lsort98_10 _
  · exact lsort98_11 _
  · exact lsort98_12 _
  · exact lsort98_13 _
  · exact lsort98_14 _
def due98 (w : Nat) (x y : MV) : List MV := if w = 2 then [x, y] else if 9 < w then [] else [x]
theorem lfields98 {w : Nat} {x y : MV} (h : w < 15) (hx : Th98 x) (hy : Th98 y) : f_lfields2 [.exn (exc98 w x y).1 (exc98 w x y).2, .int w] = .ok (.tup (due98 w x y), []) := by
  refine mFn_ok ?_
  rcases fifteen h with rfl | rfl | rfl | rfl | rfl | rfl | rfl | rfl | rfl | rfl | rfl | rfl | rfl | rfl | rfl <;> rcases hx with ⟨i, rfl, _⟩ | ⟨s, rfl⟩ <;> rcases hy with ⟨j, rfl, _⟩ | ⟨t, rfl⟩ <;> exact ⟨_, rfl⟩
theorem lright98 {w : Nat} {x y : MV} (h : w < 15) (hx : Th98 x) (hy : Th98 y) : f_lright11 [.exn (exc98 w x y).1 (exc98 w x y).2, .int w, .str (exc98 w x y).1, x, y] = .ok (.bl true, []) := by
  have so := lsorts98 (x := x) (y := y) h
  have fi := lfields98 h hx hy
  have js : f_ljust [.tup (due98 w x y), .tup (due98 w x y)] = .ok (.bl true, []) := just_self 7 _ (by
    have ox : okJ 6 x = true := by rcases hx with ⟨i, rfl, _⟩ | ⟨s, rfl⟩ <;> rfl
    have oy : okJ 6 y = true := by rcases hy with ⟨i, rfl, _⟩ | ⟨s, rfl⟩ <;> rfl
    unfold due98
    split
    · simp [okJ, ox, oy]
    · split
      · rfl
      · simp [okJ, ox])
  generalize (exc98 w x y).1 = C at *
  generalize (exc98 w x y).2 = fs at *
  refine mFn_ok ?_
  have ve : ∀ r : Env, mVar 0 (some (.exn C fs) :: r) = .ok (.exn C fs, some (.exn C fs) :: r) := fun r => rfl
  have nn : fNotN (.exn C fs) .non = some (.bl true) := rfl
  have mm0 : mulOk 2 0 = true := by decide +kernel
  have mm1 : mulOk 2 1 = true := by decide +kernel
  have s1 : mAsg (mOp fIx (mTup (mCons (mTup (mCons (mVar 3) (mNil))) (mCons (mTup (mCons (mVar 3) (mCons (mVar 4) (mNil)))) (mCons (mTup (mNil)) (mNil))))) (mOp fAdd (mBlt bInt (mCons (mOp fEq (mVar 1) (mC (.int 2))) (mNil))) (mOp fMul (mC (.int 2)) (mBlt bInt (mCons (mOp fGt (mVar 1) (mC (.int 9))) (mNil)))))) (gSet 5) [some (.exn C fs), some (.int w), some (.str C), some x, some y, none] = .ok (.nx, [some (.exn C fs), some (.int w), some (.str C), some x, some y, some (.tup (due98 w x y))]) := by
    rcases hx with ⟨i, rfl, _⟩ | ⟨s, rfl⟩ <;> rcases hy with ⟨j, rfl, _⟩ | ⟨t, rfl⟩ <;> rcases fifteen h with rfl | rfl | rfl | rfl | rfl | rfl | rfl | rfl | rfl | rfl | rfl | rfl | rfl | rfl | rfl <;> simp [szOk_small, due98, mm0, mm1]
  show ∃ ρ, m_lright11 [some (.exn C fs), some (.int w), some (.str C), some x, some y, none] = _
  unfold m_lright11
  refine seq_nxE s1 ?_
  generalize due98 w x y = D at *
  simp [ve, nn, so, fi, js]
def nm98 (w : Nat) : Str := (exc98 w .non .non).1
theorem nm98_eq {w : Nat} (h : w < 15) (x y : MV) : (exc98 w x y).1 = nm98 w := by
  rcases fifteen h with rfl | rfl | rfl | rfl | rfl | rfl | rfl | rfl | rfl | rfl | rfl | rfl | rfl | rfl | rfl <;> rfl
abbrev e98 (ns : List Int) (r1 r2 r3 r4 r5 r6 : Option MV) : Env := [some (.scr ns), r1, r2, r3, r4, r5, r6, none]
theorem turn98 (ns : List Int) {w : Nat} (h : w < 15) {T : Str} {r4 r5 r6 : Option MV} : ∃ s4 s5 s6, b_law142_0 (e98 ns (some (.str T)) (some (.int w)) (some (.str (nm98 w))) r4 r5 r6) = .ok (.nx, e98 ns (some (.str T)) (some (.int w)) (some (.str (nm98 w))) s4 s5 s6) := by
  have ex : ∀ k : Nat, ∃ x c, Th98 x ∧ f_lcell [.scr ns, .int (4 * (w : Int) + (k : Int))] = .ok (.int c, []) ∧ f_lthing [.int c, .int (581 + (k : Int))] = .ok (x, []) := fun k => by
    obtain ⟨c, hc⟩ := lcell_ok ns (4 * w + k)
    obtain ⟨x, hx, e⟩ := lthing98 c (581 + (k : Int))
    exact ⟨x, c, hx, by rw [← hc]; congr 3, e⟩
  obtain ⟨X, hXX⟩ : ∃ X : Nat → MV, ∀ k, ∃ c, Th98 (X k) ∧ f_lcell [.scr ns, .int (4 * (w : Int) + (k : Int))] = .ok (.int c, []) ∧ f_lthing [.int c, .int (581 + (k : Int))] = .ok (X k, []) := ⟨fun k => Classical.choose (ex k), fun k => Classical.choose_spec (ex k)⟩
  have hX : ∀ k, Th98 (X k) := fun k => (hXX k).choose_spec.1
  have lc : mLcO (mR1 (mCons (mC (.int 4)) (mNil))) (.nm 7) (mYes) (mFz (mCall0 f_lthing (mCons (mFz (mCall0 f_lcell (mCons (mVar 0) (mCons (mOp fAdd (mOp fMul (mC (.int 4)) (mVar 2)) (mVar 7)) (mNil))))) (mCons (mOp fAdd (mC (.int 581)) (mVar 7)) (mNil))))) [7] (e98 ns (some (.str T)) (some (.int w)) (some (.str (nm98 w))) r4 r5 r6) =
      .ok (.own ((List.range 4).map X), e98 ns (some (.str T)) (some (.int w)) (some (.str (nm98 w))) r4 r5 r6) := by
    refine mLcO_it (l := List.range 4) (fun i : Nat => .int (i : Int)) X ?_ rfl (fun i hi => ?_) (by decide)
    · generalize nm98 w = N
      simp
      rfl
    · obtain ⟨c, _, hm, ht⟩ := hXX i
      have fz : fz (X i) = some (X i) := by rcases hX i with ⟨j, q, _⟩ | ⟨s, q⟩ <;> rw [q] <;> rfl
      have m1 : mulOk 4 (w : Int) = true := mulOk_wide (i := 4) (j := (w : Int)) (by decide) (by omega)
      generalize nm98 w = N
      simp [hm, ht, fz, m1]
  have l4 : (List.range 4).map X = [X 0, X 1, X 2, X 3] := rfl
  rw [l4] at lc
  have ix : ∀ j : Nat, j < 4 → ([X 0, X 1, X 2, X 3] : List MV)[j]? = some (X j) := fun j hj => by
    rcases (by omega : j = 0 ∨ j = 1 ∨ j = 2 ∨ j = 3) with rfl | rfl | rfl | rfl <;> rfl
  have m1 := lmet98 h (hX 0) (hX 1)
  have m2 := lmet98 h (hX 2) (hX 3)
  have g1 := lright98 h (hX 0) (hX 1)
  have g2 := lright98 h (hX 2) (hX 3)
  rw [nm98_eq h] at m1 m2 g1 g2
  have i0 : fIx (.lst [X 0, X 1, X 2, X 3]) (.int 0) = some (X 0) := rfl
  have i1 : fIx (.lst [X 0, X 1, X 2, X 3]) (.int 1) = some (X 1) := rfl
  have i2 : fIx (.lst [X 0, X 1, X 2, X 3]) (.int 2) = some (X 2) := rfl
  have i3 : fIx (.lst [X 0, X 1, X 2, X 3]) (.int 3) = some (X 3) := rfl
  generalize (exc98 w (X 0) (X 1)).2 = F1 at *
  generalize (exc98 w (X 2) (X 3)).2 = F2 at *
  generalize hL : [X 0, X 1, X 2, X 3] = LL at *
  generalize nm98 w = N at *
  generalize X 0 = a0 at *
  generalize X 1 = a1 at *
  generalize X 2 = a2 at *
  generalize X 3 = a3 at *
  have v5 : ∀ r6, mVar 5 (e98 ns (some (.str T)) (some (.int w)) (some (.str N)) (some (.lst LL)) (some (.exn N F1)) r6) = .ok (.exn N F1, e98 ns (some (.str T)) (some (.int w)) (some (.str N)) (some (.lst LL)) (some (.exn N F1)) r6) := fun r6 => rfl
  have v6 : mVar 6 (e98 ns (some (.str T)) (some (.int w)) (some (.str N)) (some (.lst LL)) (some (.exn N F1)) (some (.exn N F2))) = .ok (.exn N F2, e98 ns (some (.str T)) (some (.int w)) (some (.str N)) (some (.lst LL)) (some (.exn N F1)) (some (.exn N F2))) := rfl
  refine ⟨some (.lst LL), some (.exn N F1), some (.exn N F2), ?_⟩
  unfold b_law142_0
  refine seq_nx (ρ1 := e98 ns (some (.str T)) (some (.int w)) (some (.str N)) (some (.own LL)) r5 r6) ?_ ?_
  · rw [mSetO_ap, lc]
    rfl
  refine seq_nx (ρ1 := e98 ns (some (.str T)) (some (.int w)) (some (.str N)) (some (.lst LL)) (some (.exn N F1)) r6) (by simp [i0, i1, m1, fz]) ?_
  refine seq_nx (ρ1 := e98 ns (some (.str T)) (some (.int w)) (some (.str N)) (some (.lst LL)) (some (.exn N F1)) (some (.exn N F2))) (by simp [i2, i3, m2, fz]) ?_
  refine seq_nx (ρ1 := e98 ns (some (.str T)) (some (.int w)) (some (.str N)) (some (.lst LL)) (some (.exn N F1)) (some (.exn N F2))) ?_ ?_
  · have := v5 (some (.exn N F2))
    simp at this
    simp [this, i0, i1, g1]
  · have := v6
    simp at this
    simp [this, i2, i3, g2]
theorem law_true (ns : List Int) (_ : ns.length ≤ 63) : ∃ bs, f_law142 [.scr ns] = .ok (.bl true, bs) := by
  have app : Str.ofString "NoShape NoFit Wrong NoTable NoRow BadLine TooLong NoRule NoDeed NoName" ++ Str.ofString " NoText Nought Unlike NoLine NothingDone" = Str.ofString "NoShape NoFit Wrong NoTable NoRow BadLine TooLong NoRule NoDeed NoName NoText Nought Unlike NoLine NothingDone" := by decide +kernel
  have l1 : (Str.ofString "NoShape NoFit Wrong NoTable NoRow BadLine TooLong NoRule NoDeed NoName").length = 70 := by decide +kernel
  have l2 : (Str.ofString " NoText Nought Unlike NoLine NothingDone").length = 40 := by decide +kernel
  have l3 : (Str.ofString "NoShape NoFit Wrong NoTable NoRow BadLine TooLong NoRule NoDeed NoName NoText Nought Unlike NoLine NothingDone").length = 110 := by decide +kernel
  have ws : Txt.split (Str.ofString "NoShape NoFit Wrong NoTable NoRow BadLine TooLong NoRule NoDeed NoName NoText Nought Unlike NoLine NothingDone") (Str.ofString " ") = (List.range 15).map nm98 := by decide +kernel
  generalize Str.ofString "NoShape NoFit Wrong NoTable NoRow BadLine TooLong NoRule NoDeed NoName NoText Nought Unlike NoLine NothingDone" = T at *
  have sp : smSplit T [.str (Str.ofString " ")] = some (.lst (((List.range 15).map nm98).map .str)) := by
    rw [← ws]
    exact if_pos ⟨rfl, by rw [l3, sizeLine_eq]; omega⟩
  obtain ⟨ρ', e2, r2, r3, r4, r5, r6, rfl⟩ := loop_nx (g := gTp 2 (gsCons (gSet 2) (gsCons (gSet 3) (gsNil)))) (b := b_law142_0) (ρ := e98 ns (some (.str T)) none none none none none)
    (fun _ ρ => ∃ r2 r3 r4 r5 r6, ρ = e98 ns (some (.str T)) r2 r3 r4 r5 r6) (enumFrom 0 (((List.range 15).map nm98).map .str)) ⟨none, none, none, none, none, rfl⟩ (by
      rintro i x ρ hx ⟨r2, r3, r4, r5, r6, rfl⟩
      have hi : i < 15 := by
        have := (List.getElem?_eq_some_iff.mp hx).1
        rw [enum_len] at this
        simpa using this
      have : x = .tup [.int (i : Int), .str (nm98 i)] := by
        rw [enum_get (x := .str (nm98 i)) (by simp [hi])] at hx
        simpa using hx.symm
      subst this
      obtain ⟨s4, s5, s6, e⟩ := turn98 ns hi (T := T) (r4 := r4) (r5 := r5) (r6 := r6)
      exact ⟨e98 ns (some (.str T)) (some (.int i)) (some (.str (nm98 i))) r4 r5 r6, rfl, _, e, _, _, s4, s5, s6, rfl⟩)
  refine ⟨[], mFn_ok (v := .bl true) ?_⟩
  show ∃ ρ, m_law142 [some (.scr ns), none, none, none, none, none, none, none] = .ok (.rt (.bl true), ρ)
  unfold m_law142
  refine seq_nxE (ρ1 := [some (.scr ns), some (.str (Str.ofString "NoShape NoFit Wrong NoTable NoRow BadLine TooLong NoRule NoDeed NoName")), none, none, none, none, none, none]) rfl ?_
  generalize Str.ofString "NoShape NoFit Wrong NoTable NoRow BadLine TooLong NoRule NoDeed NoName" = A at *
  refine seq_nxE (ρ1 := [some (.scr ns), some (.str T), none, none, none, none, none, none]) ?_ ?_
  · generalize Str.ofString " NoText Nought Unlike NoLine NothingDone" = B at *
    have s : szOk (A.length + B.length) = true := by rw [l1, l2]; exact szOk_small (by omega)
    simp [app, s]
  refine seq_nxE (ρ1 := e98 ns (some (.str T)) r2 r3 r4 r5 r6) ?_ ⟨_, rfl⟩
  · have it : mEnum (mCons (mSm smSplit (mVar 1) (mCons (mC (.str " ")) (mNil))) (mNil)) [some (.scr ns), some (.str T), none, none, none, none, none, none] = .ok (enumFrom 0 (((List.range 15).map nm98).map .str), [some (.scr ns), some (.str T), none, none, none, none, none, none]) := by
      generalize ((List.range 15).map nm98).map MV.str = L at *
      simp [smE_ok sp]
    rw [mFor_ap, it, bind_ok]
    exact e2
def top (i : Nat) : Stmt := PySem.Challenge.pw_tensloft_k98_refusals_made.main.body.getD i (.Pass ⟨0, 0, 0, 0⟩)
abbrev s_ini_BadLine : Stmt := inCls (top 7) 0
theorem sc_ini_BadLine : FnScope ["self", "at"] ["self", "at"] (defScope s_ini_BadLine) := ⟨rfl, rfl, rfl, by decide +kernel, rfl, by decide +kernel, by decide +kernel⟩
theorem ini_BadLine {P : Program} {w : World} {K : PySem.W.Frag} {mg : Str → Option Value} {base : Heap} {a : Addr} {fd : FuncData} (F : Fun K "__init__" "BadLine.__init__" s_ini_BadLine a fd) (B : Bas K mg "LoftError") : FnOk P w K mg base (L2N.CX P w) 2 a fd ["self", "at"] (spI1 K "at") :=
  init1 F sc_ini_BadLine B rfl (fun _ _ => rfl) (by decide +kernel) (by decide +kernel) (fun _ => ⟨_, rfl⟩) (by decide) (by decide) (by decide)
abbrev s_ini_NoDeed : Stmt := inCls (top 10) 0
theorem sc_ini_NoDeed : FnScope ["self", "deed"] ["self", "deed"] (defScope s_ini_NoDeed) := ⟨rfl, rfl, rfl, by decide +kernel, rfl, by decide +kernel, by decide +kernel⟩
theorem ini_NoDeed {P : Program} {w : World} {K : PySem.W.Frag} {mg : Str → Option Value} {base : Heap} {a : Addr} {fd : FuncData} (F : Fun K "__init__" "NoDeed.__init__" s_ini_NoDeed a fd) (B : Bas K mg "LoftError") : FnOk P w K mg base (L2N.CX P w) 2 a fd ["self", "deed"] (spI1 K "deed") :=
  init1 F sc_ini_NoDeed B rfl (fun _ _ => rfl) (by decide +kernel) (by decide +kernel) (fun _ => ⟨_, rfl⟩) (by decide) (by decide) (by decide)
abbrev s_ini_NoFit : Stmt := inCls (top 3) 0
theorem sc_ini_NoFit : FnScope ["self", "number"] ["self", "number"] (defScope s_ini_NoFit) := ⟨rfl, rfl, rfl, by decide +kernel, rfl, by decide +kernel, by decide +kernel⟩
theorem ini_NoFit {P : Program} {w : World} {K : PySem.W.Frag} {mg : Str → Option Value} {base : Heap} {a : Addr} {fd : FuncData} (F : Fun K "__init__" "NoFit.__init__" s_ini_NoFit a fd) (B : Bas K mg "LoftError") : FnOk P w K mg base (L2N.CX P w) 2 a fd ["self", "number"] (spI1 K "number") :=
  init1 F sc_ini_NoFit B rfl (fun _ _ => rfl) (by decide +kernel) (by decide +kernel) (fun _ => ⟨_, rfl⟩) (by decide) (by decide) (by decide)
abbrev s_ini_NoName : Stmt := inCls (top 11) 0
theorem sc_ini_NoName : FnScope ["self", "name"] ["self", "name"] (defScope s_ini_NoName) := ⟨rfl, rfl, rfl, by decide +kernel, rfl, by decide +kernel, by decide +kernel⟩
theorem ini_NoName {P : Program} {w : World} {K : PySem.W.Frag} {mg : Str → Option Value} {base : Heap} {a : Addr} {fd : FuncData} (F : Fun K "__init__" "NoName.__init__" s_ini_NoName a fd) (B : Bas K mg "LoftError") : FnOk P w K mg base (L2N.CX P w) 2 a fd ["self", "name"] (spI1 K "name") :=
  init1 F sc_ini_NoName B rfl (fun _ _ => rfl) (by decide +kernel) (by decide +kernel) (fun _ => ⟨_, rfl⟩) (by decide) (by decide) (by decide)
abbrev s_ini_NoRow : Stmt := inCls (top 6) 0
theorem sc_ini_NoRow : FnScope ["self", "at"] ["self", "at"] (defScope s_ini_NoRow) := ⟨rfl, rfl, rfl, by decide +kernel, rfl, by decide +kernel, by decide +kernel⟩
theorem ini_NoRow {P : Program} {w : World} {K : PySem.W.Frag} {mg : Str → Option Value} {base : Heap} {a : Addr} {fd : FuncData} (F : Fun K "__init__" "NoRow.__init__" s_ini_NoRow a fd) (B : Bas K mg "LoftError") : FnOk P w K mg base (L2N.CX P w) 2 a fd ["self", "at"] (spI1 K "at") :=
  init1 F sc_ini_NoRow B rfl (fun _ _ => rfl) (by decide +kernel) (by decide +kernel) (fun _ => ⟨_, rfl⟩) (by decide) (by decide) (by decide)
abbrev s_ini_NoRule : Stmt := inCls (top 9) 0
theorem sc_ini_NoRule : FnScope ["self", "rule"] ["self", "rule"] (defScope s_ini_NoRule) := ⟨rfl, rfl, rfl, by decide +kernel, rfl, by decide +kernel, by decide +kernel⟩
theorem ini_NoRule {P : Program} {w : World} {K : PySem.W.Frag} {mg : Str → Option Value} {base : Heap} {a : Addr} {fd : FuncData} (F : Fun K "__init__" "NoRule.__init__" s_ini_NoRule a fd) (B : Bas K mg "LoftError") : FnOk P w K mg base (L2N.CX P w) 2 a fd ["self", "rule"] (spI1 K "rule") :=
  init1 F sc_ini_NoRule B rfl (fun _ _ => rfl) (by decide +kernel) (by decide +kernel) (fun _ => ⟨_, rfl⟩) (by decide) (by decide) (by decide)
abbrev s_ini_NoShape : Stmt := inCls (top 2) 0
theorem sc_ini_NoShape : FnScope ["self", "part"] ["self", "part"] (defScope s_ini_NoShape) := ⟨rfl, rfl, rfl, by decide +kernel, rfl, by decide +kernel, by decide +kernel⟩
theorem ini_NoShape {P : Program} {w : World} {K : PySem.W.Frag} {mg : Str → Option Value} {base : Heap} {a : Addr} {fd : FuncData} (F : Fun K "__init__" "NoShape.__init__" s_ini_NoShape a fd) (B : Bas K mg "LoftError") : FnOk P w K mg base (L2N.CX P w) 2 a fd ["self", "part"] (spI1 K "part") :=
  init1 F sc_ini_NoShape B rfl (fun _ _ => rfl) (by decide +kernel) (by decide +kernel) (fun _ => ⟨_, rfl⟩) (by decide) (by decide) (by decide)
abbrev s_ini_NoTable : Stmt := inCls (top 5) 0
theorem sc_ini_NoTable : FnScope ["self", "at"] ["self", "at"] (defScope s_ini_NoTable) := ⟨rfl, rfl, rfl, by decide +kernel, rfl, by decide +kernel, by decide +kernel⟩
theorem ini_NoTable {P : Program} {w : World} {K : PySem.W.Frag} {mg : Str → Option Value} {base : Heap} {a : Addr} {fd : FuncData} (F : Fun K "__init__" "NoTable.__init__" s_ini_NoTable a fd) (B : Bas K mg "LoftError") : FnOk P w K mg base (L2N.CX P w) 2 a fd ["self", "at"] (spI1 K "at") :=
  init1 F sc_ini_NoTable B rfl (fun _ _ => rfl) (by decide +kernel) (by decide +kernel) (fun _ => ⟨_, rfl⟩) (by decide) (by decide) (by decide)
abbrev s_ini_TooLong : Stmt := inCls (top 8) 0
theorem sc_ini_TooLong : FnScope ["self", "number"] ["self", "number"] (defScope s_ini_TooLong) := ⟨rfl, rfl, rfl, by decide +kernel, rfl, by decide +kernel, by decide +kernel⟩
theorem ini_TooLong {P : Program} {w : World} {K : PySem.W.Frag} {mg : Str → Option Value} {base : Heap} {a : Addr} {fd : FuncData} (F : Fun K "__init__" "TooLong.__init__" s_ini_TooLong a fd) (B : Bas K mg "LoftError") : FnOk P w K mg base (L2N.CX P w) 2 a fd ["self", "number"] (spI1 K "number") :=
  init1 F sc_ini_TooLong B rfl (fun _ _ => rfl) (by decide +kernel) (by decide +kernel) (fun _ => ⟨_, rfl⟩) (by decide) (by decide) (by decide)
abbrev s_ini_Wrong : Stmt := inCls (top 4) 0
theorem sc_ini_Wrong : FnScope ["self", "place", "why"] ["self", "place", "why"] (defScope s_ini_Wrong) := ⟨rfl, rfl, rfl, by decide +kernel, rfl, by decide +kernel, by decide +kernel⟩
theorem ini_Wrong {P : Program} {w : World} {K : PySem.W.Frag} {mg : Str → Option Value} {base : Heap} {a : Addr} {fd : FuncData} (F : Fun K "__init__" "Wrong.__init__" s_ini_Wrong a fd) (B : Bas K mg "LoftError") : FnOk P w K mg base (L2N.CX P w) 2 a fd ["self", "place", "why"] (spI2 K "place" "why") :=
  init2 F sc_ini_Wrong B rfl (fun _ _ => rfl) (by decide +kernel) (by decide +kernel) (by decide +kernel) (fun _ => ⟨_, rfl⟩) (by decide) (by decide) (by decide) (by decide) (by decide)
section
variable {P : Program} {w : World} {K : PySem.W.Frag} {mg : Str → Option Value} {base : Heap} {f : Addr} {fd : FuncData}
abbrev s_lraised : Stmt := top 24
abbrev N_lraised : List Str := ["_law_which", "_law_first", "_law_second"]
theorem sc_lraised : FnScope N_lraised ["_law_which", "_law_first", "_law_second"] (defScope s_lraised) := ⟨rfl, rfl, rfl, by decide +kernel, rfl, by decide +kernel, by decide +kernel⟩
theorem v_lraised_0 : LV s_lraised "_law_which" := by decide +kernel
theorem v_lraised_1 : LV s_lraised "_law_first" := by decide +kernel
theorem v_lraised_2 : LV s_lraised "_law_second" := by decide +kernel
theorem g_lraised_NoShape : GV "_law_raised" s_lraised "NoShape" := fun _ _ _ => rfl
theorem g_lraised_NoFit : GV "_law_raised" s_lraised "NoFit" := fun _ _ _ => rfl
theorem g_lraised_Wrong : GV "_law_raised" s_lraised "Wrong" := fun _ _ _ => rfl
theorem g_lraised_NoTable : GV "_law_raised" s_lraised "NoTable" := fun _ _ _ => rfl
theorem g_lraised_NoRow : GV "_law_raised" s_lraised "NoRow" := fun _ _ _ => rfl
theorem g_lraised_BadLine : GV "_law_raised" s_lraised "BadLine" := fun _ _ _ => rfl
theorem g_lraised_TooLong : GV "_law_raised" s_lraised "TooLong" := fun _ _ _ => rfl
theorem g_lraised_NoRule : GV "_law_raised" s_lraised "NoRule" := fun _ _ _ => rfl
theorem g_lraised_NoDeed : GV "_law_raised" s_lraised "NoDeed" := fun _ _ _ => rfl
theorem g_lraised_NoName : GV "_law_raised" s_lraised "NoName" := fun _ _ _ => rfl
theorem ok_lraised (F : Fun K "_law_raised" "_law_raised" s_lraised f fd) (B : Bn mg)   (xcl1_NoShape_part : Cl1 P w K mg base "NoShape" "part") (xcl1_NoFit_number : Cl1 P w K mg base "NoFit" "number") (xcl2_Wrong_place_why : Cl2 P w K mg base "Wrong" "place" "why") (xcl1_NoTable_at : Cl1 P w K mg base "NoTable" "at") (xcl1_NoRow_at : Cl1 P w K mg base "NoRow" "at") (xcl1_BadLine_at : Cl1 P w K mg base "BadLine" "at") (xcl1_TooLong_number : Cl1 P w K mg base "TooLong" "number") (xcl1_NoRule_rule : Cl1 P w K mg base "NoRule" "rule") (xcl1_NoDeed_deed : Cl1 P w K mg base "NoDeed" "deed") (xcl1_NoName_name : Cl1 P w K mg base "NoName" "name")  :
    FnOk P w K mg base (L2N.CX P w) 4 f fd ["_law_which", "_law_first", "_law_second"] (spF K mg 3 [] f_lraised) := by
  refine fn_ok F sc_lraised (by decide) (by decide) fun cdv A outer s H E hr => ?_
  have nd := sc_lraised.nd
  have tk : TkO (cxO P w K mg base N_lraised "_law_raised" s_lraised f cdv A outer s H E) E := L2N.takes_of rfl rfl rfl rfl
  have pn : PnO P w (cxO P w K mg base N_lraised "_law_raised" s_lraised f cdv A outer s H E) := passes_of rfl
  unfold m_lraised
  exact mss_cons (ms_if (mt_cmp (op_eqM hr.units) os_eq (me_var (i := 0) rfl (.inl v_lraised_0)) (me_int) (nomark _)) (mss_one (ms_raise1 xcl1_NoShape_part rfl hr (by decide) tk (g_lraised_NoShape _ _ _) (me_var (i := 1) rfl (.inl v_lraised_1)))) (mss_nil)) (mss_cons (ms_if (mt_cmp (op_eqM hr.units) os_eq (me_var (i := 0) rfl (.inl v_lraised_0)) (me_int) (nomark _)) (mss_one (ms_raise1 xcl1_NoFit_number rfl hr (by decide) tk (g_lraised_NoFit _ _ _) (me_var (i := 1) rfl (.inl v_lraised_1)))) (mss_nil)) (mss_cons (ms_if (mt_cmp (op_eqM hr.units) os_eq (me_var (i := 0) rfl (.inl v_lraised_0)) (me_int) (nomark _)) (mss_one (ms_raise2 xcl2_Wrong_place_why rfl hr (by decide) tk (g_lraised_Wrong _ _ _) (me_var (i := 1) rfl (.inl v_lraised_1)) (me_var (i := 2) rfl (.inl v_lraised_2)))) (mss_nil)) (mss_cons (ms_if (mt_cmp (op_eqM hr.units) os_eq (me_var (i := 0) rfl (.inl v_lraised_0)) (me_int) (nomark _)) (mss_one (ms_raise1 xcl1_NoTable_at rfl hr (by decide) tk (g_lraised_NoTable _ _ _) (me_var (i := 1) rfl (.inl v_lraised_1)))) (mss_nil)) (mss_cons (ms_if (mt_cmp (op_eqM hr.units) os_eq (me_var (i := 0) rfl (.inl v_lraised_0)) (me_int) (nomark _)) (mss_one (ms_raise1 xcl1_NoRow_at rfl hr (by decide) tk (g_lraised_NoRow _ _ _) (me_var (i := 1) rfl (.inl v_lraised_1)))) (mss_nil)) (mss_cons (ms_if (mt_cmp (op_eqM hr.units) os_eq (me_var (i := 0) rfl (.inl v_lraised_0)) (me_int) (nomark _)) (mss_one (ms_raise1 xcl1_BadLine_at rfl hr (by decide) tk (g_lraised_BadLine _ _ _) (me_var (i := 1) rfl (.inl v_lraised_1)))) (mss_nil)) (mss_cons (ms_if (mt_cmp (op_eqM hr.units) os_eq (me_var (i := 0) rfl (.inl v_lraised_0)) (me_int) (nomark _)) (mss_one (ms_raise1 xcl1_TooLong_number rfl hr (by decide) tk (g_lraised_TooLong _ _ _) (me_var (i := 1) rfl (.inl v_lraised_1)))) (mss_nil)) (mss_cons (ms_if (mt_cmp (op_eqM hr.units) os_eq (me_var (i := 0) rfl (.inl v_lraised_0)) (me_int) (nomark _)) (mss_one (ms_raise1 xcl1_NoRule_rule rfl hr (by decide) tk (g_lraised_NoRule _ _ _) (me_var (i := 1) rfl (.inl v_lraised_1)))) (mss_nil)) (mss_cons (ms_if (mt_cmp (op_eqM hr.units) os_eq (me_var (i := 0) rfl (.inl v_lraised_0)) (me_int) (nomark _)) (mss_one (ms_raise1 xcl1_NoDeed_deed rfl hr (by decide) tk (g_lraised_NoDeed _ _ _) (me_var (i := 1) rfl (.inl v_lraised_1)))) (mss_nil)) (mss_cons (ms_if (mt_cmp (op_eqM hr.units) os_eq (me_var (i := 0) rfl (.inl v_lraised_0)) (me_int) (nomark _)) (mss_one (ms_raise1 xcl1_NoName_name rfl hr (by decide) tk (g_lraised_NoName _ _ _) (me_var (i := 1) rfl (.inl v_lraised_1)))) (mss_nil)) (mss_one (ms_ret (me_non))))))))))))

abbrev s_lraised_of_text : Stmt := top 25
abbrev N_lraised_of_text : List Str := ["_law_which", "_law_text"]
theorem sc_lraised_of_text : FnScope N_lraised_of_text ["_law_which", "_law_text"] (defScope s_lraised_of_text) := ⟨rfl, rfl, rfl, by decide +kernel, rfl, by decide +kernel, by decide +kernel⟩
theorem v_lraised_of_text_0 : LV s_lraised_of_text "_law_which" := by decide +kernel
theorem v_lraised_of_text_1 : LV s_lraised_of_text "_law_text" := by decide +kernel
theorem g_lraised_of_text_NoText : GV "_law_raised_of_text" s_lraised_of_text "NoText" := fun _ _ _ => rfl
theorem g_lraised_of_text_Nought : GV "_law_raised_of_text" s_lraised_of_text "Nought" := fun _ _ _ => rfl
theorem g_lraised_of_text_Unlike : GV "_law_raised_of_text" s_lraised_of_text "Unlike" := fun _ _ _ => rfl
theorem g_lraised_of_text_NoLine : GV "_law_raised_of_text" s_lraised_of_text "NoLine" := fun _ _ _ => rfl
theorem g_lraised_of_text_NothingDone : GV "_law_raised_of_text" s_lraised_of_text "NothingDone" := fun _ _ _ => rfl
theorem ok_lraised_of_text (F : Fun K "_law_raised_of_text" "_law_raised_of_text" s_lraised_of_text f fd) (B : Bn mg)   (xcl0_NoText : Cl0 K mg "NoText") (xcl0_Nought : Cl0 K mg "Nought") (xcl0_Unlike : Cl0 K mg "Unlike") (xcl0_NoLine : Cl0 K mg "NoLine") (xcl0_NothingDone : Cl0 K mg "NothingDone")  :
    FnOk P w K mg base (L2N.CX P w) 2 f fd ["_law_which", "_law_text"] (spF K mg 2 [] f_lraised_of_text) := by
  refine fn_ok F sc_lraised_of_text (by decide) (by decide) fun cdv A outer s H E hr => ?_
  have nd := sc_lraised_of_text.nd
  have tk : TkO (cxO P w K mg base N_lraised_of_text "_law_raised_of_text" s_lraised_of_text f cdv A outer s H E) E := L2N.takes_of rfl rfl rfl rfl
  have pn : PnO P w (cxO P w K mg base N_lraised_of_text "_law_raised_of_text" s_lraised_of_text f cdv A outer s H E) := passes_of rfl
  unfold m_lraised_of_text
  exact mss_cons (ms_if (mt_cmp (op_eqM hr.units) os_eq (me_var (i := 0) rfl (.inl v_lraised_of_text_0)) (me_int) (nomark _)) (mss_one (ms_raise0c xcl0_NoText rfl tk (g_lraised_of_text_NoText _ _ _) (me_var (i := 1) rfl (.inl v_lraised_of_text_1)))) (mss_nil)) (mss_cons (ms_if (mt_cmp (op_eqM hr.units) os_eq (me_var (i := 0) rfl (.inl v_lraised_of_text_0)) (me_int) (nomark _)) (mss_one (ms_raise0c xcl0_Nought rfl tk (g_lraised_of_text_Nought _ _ _) (me_var (i := 1) rfl (.inl v_lraised_of_text_1)))) (mss_nil)) (mss_cons (ms_if (mt_cmp (op_eqM hr.units) os_eq (me_var (i := 0) rfl (.inl v_lraised_of_text_0)) (me_int) (nomark _)) (mss_one (ms_raise0c xcl0_Unlike rfl tk (g_lraised_of_text_Unlike _ _ _) (me_var (i := 1) rfl (.inl v_lraised_of_text_1)))) (mss_nil)) (mss_cons (ms_if (mt_cmp (op_eqM hr.units) os_eq (me_var (i := 0) rfl (.inl v_lraised_of_text_0)) (me_int) (nomark _)) (mss_one (ms_raise0c xcl0_NoLine rfl tk (g_lraised_of_text_NoLine _ _ _) (me_var (i := 1) rfl (.inl v_lraised_of_text_1)))) (mss_nil)) (mss_cons (ms_if (mt_cmp (op_eqM hr.units) os_eq (me_var (i := 0) rfl (.inl v_lraised_of_text_0)) (me_int) (nomark _)) (mss_one (ms_raise0c xcl0_NothingDone rfl tk (g_lraised_of_text_NothingDone _ _ _) (me_var (i := 1) rfl (.inl v_lraised_of_text_1)))) (mss_nil)) (mss_one (ms_ret (me_non)))))))

abbrev s_lmet : Stmt := top 26
abbrev N_lmet : List Str := ["_law_which", "_law_first", "_law_second", "_law_found", "_law_e"]
theorem sc_lmet : FnScope N_lmet ["_law_which", "_law_first", "_law_second"] (defScope s_lmet) := ⟨rfl, rfl, rfl, by decide +kernel, rfl, by decide +kernel, by decide +kernel⟩
theorem v_lmet_0 : LV s_lmet "_law_which" := by decide +kernel
theorem v_lmet_1 : LV s_lmet "_law_first" := by decide +kernel
theorem v_lmet_2 : LV s_lmet "_law_second" := by decide +kernel
theorem v_lmet_3 : LV s_lmet "_law_found" := by decide +kernel
theorem v_lmet_4 : LV s_lmet "_law_e" := by decide +kernel
theorem g_lmet_LoftError : GV "_law_met" s_lmet "LoftError" := fun _ _ _ => rfl
theorem g_lmet_law_raised : GV "_law_met" s_lmet "_law_raised" := fun _ _ _ => rfl
theorem g_lmet_str : GV "_law_met" s_lmet "str" := fun _ _ _ => rfl
theorem g_lmet_law_raised_of_text : GV "_law_met" s_lmet "_law_raised_of_text" := fun _ _ _ => rfl
theorem ok_lmet (F : Fun K "_law_met" "_law_met" s_lmet f fd) (B : Bn mg) (h_lraised : Fd P w K mg base "_law_raised" 4 ["_law_which", "_law_first", "_law_second"] [] f_lraised) (h_lraised_of_text : Fd P w K mg base "_law_raised_of_text" 2 ["_law_which", "_law_text"] [] f_lraised_of_text)  (xext_LoftError_Wrong_True : ExT K mg "LoftError" "Wrong" true) (xext_LoftError_Unlike_True : ExT K mg "LoftError" "Unlike" true) (xext_LoftError_TooLong_True : ExT K mg "LoftError" "TooLong" true) (xext_LoftError_Nought_True : ExT K mg "LoftError" "Nought" true) (xext_LoftError_NothingDone_True : ExT K mg "LoftError" "NothingDone" true) (xext_LoftError_NoText_True : ExT K mg "LoftError" "NoText" true) (xext_LoftError_NoTable_True : ExT K mg "LoftError" "NoTable" true) (xext_LoftError_NoShape_True : ExT K mg "LoftError" "NoShape" true) (xext_LoftError_NoRule_True : ExT K mg "LoftError" "NoRule" true) (xext_LoftError_NoRow_True : ExT K mg "LoftError" "NoRow" true) (xext_LoftError_NoName_True : ExT K mg "LoftError" "NoName" true) (xext_LoftError_NoLine_True : ExT K mg "LoftError" "NoLine" true) (xext_LoftError_NoFit_True : ExT K mg "LoftError" "NoFit" true) (xext_LoftError_NoDeed_True : ExT K mg "LoftError" "NoDeed" true) (xext_LoftError_BadLine_True : ExT K mg "LoftError" "BadLine" true) (xcls_LoftError : ∃ D, mg "LoftError" = some (.ref D)) (xexg_BadLine : FnG K mg "BadLine") (xexg_NoDeed : FnG K mg "NoDeed") (xexg_NoFit : FnG K mg "NoFit") (xexg_NoLine : FnG K mg "NoLine") (xexg_NoName : FnG K mg "NoName") (xexg_NoRow : FnG K mg "NoRow") (xexg_NoRule : FnG K mg "NoRule") (xexg_NoShape : FnG K mg "NoShape") (xexg_NoTable : FnG K mg "NoTable") (xexg_NoText : FnG K mg "NoText") (xexg_NothingDone : FnG K mg "NothingDone") (xexg_Nought : FnG K mg "Nought") (xexg_TooLong : FnG K mg "TooLong") (xexg_Unlike : FnG K mg "Unlike") (xexg_Wrong : FnG K mg "Wrong")  :
    FnOk P w K mg base (L2N.CX P w) 6 f fd ["_law_which", "_law_first", "_law_second"] (spF K mg 3 [] f_lmet) := by
  refine fn_ok F sc_lmet (by decide) (by decide) fun cdv A outer s H E hr => ?_
  have nd := sc_lmet.nd
  have tk : TkO (cxO P w K mg base N_lmet "_law_met" s_lmet f cdv A outer s H E) E := L2N.takes_of rfl rfl rfl rfl
  have pn : PnO P w (cxO P w K mg base N_lmet "_law_met" s_lmet f cdv A outer s H E) := passes_of rfl
  unfold m_lmet
  exact mss_cons (ms_set (i := 3) nd rfl (.inl v_lmet_3) (me_non)) (mss_cons (ms_tryV (i := 4) (j := 3) (tab := [("BadLine", true), ("NoDeed", true), ("NoFit", true), ("NoLine", true), ("NoName", true), ("NoRow", true), ("NoRule", true), ("NoShape", true), ("NoTable", true), ("NoText", true), ("NothingDone", true), ("Nought", true), ("TooLong", true), ("Unlike", true), ("Wrong", true)]) rfl rfl nd rfl rfl (by first | rfl | decide +kernel) (.inl v_lmet_3) (.inl v_lmet_4) (g_lmet_LoftError _ _ _) rfl tk (fa_cons xext_LoftError_BadLine_True (fa_cons xext_LoftError_NoDeed_True (fa_cons xext_LoftError_NoFit_True (fa_cons xext_LoftError_NoLine_True (fa_cons xext_LoftError_NoName_True (fa_cons xext_LoftError_NoRow_True (fa_cons xext_LoftError_NoRule_True (fa_cons xext_LoftError_NoShape_True (fa_cons xext_LoftError_NoTable_True (fa_cons xext_LoftError_NoText_True (fa_cons xext_LoftError_NothingDone_True (fa_cons xext_LoftError_Nought_True (fa_cons xext_LoftError_TooLong_True (fa_cons xext_LoftError_Unlike_True (fa_cons xext_LoftError_Wrong_True (fa_nil)))))))))))))))) xcls_LoftError (fa_cons xexg_BadLine (fa_cons xexg_NoDeed (fa_cons xexg_NoFit (fa_cons xexg_NoLine (fa_cons xexg_NoName (fa_cons xexg_NoRow (fa_cons xexg_NoRule (fa_cons xexg_NoShape (fa_cons xexg_NoTable (fa_cons xexg_NoText (fa_cons xexg_NothingDone (fa_cons xexg_Nought (fa_cons xexg_TooLong (fa_cons xexg_Unlike (fa_cons xexg_Wrong (fa_nil)))))))))))))))) (fun W pl xe tk pn => mss_cons (ms_expr (me_fz (mf_call h_lraised hr (by decide) tk (ma_cons (me_var (i := 0) rfl (.inl v_lmet_0)) (ma_cons (me_var (i := 1) rfl (.inl v_lmet_1)) (ma_cons (me_var (i := 2) rfl (.inl v_lmet_2)) (ma_nil)))) (lng_cons (lng_cons (lng_cons lng_nil))) (hg := (g_lmet_law_raised _ _ _))))) (mss_one (ms_expr (me_fz (mf_call h_lraised_of_text hr (by decide) tk (ma_cons (me_var (i := 0) rfl (.inl v_lmet_0)) (ma_cons (mb_strA B.str (ma_cons (me_var (i := 1) rfl (.inl v_lmet_1)) (ma_nil)) (hg := (g_lmet_str _ _ _))) (ma_nil))) (lng_cons (lng_cons lng_nil)) (hg := (g_lmet_law_raised_of_text _ _ _)))))))) (mss_one (ms_ret (me_var (i := 3) rfl (.inl v_lmet_3)))))

abbrev s_lmixed : Stmt := top 19
abbrev N_lmixed : List Str := ["_law_cell_here", "_law_k", "_law_salt", "_law_primes", "_law_one", "_law_two"]
theorem sc_lmixed : FnScope N_lmixed ["_law_cell_here", "_law_k", "_law_salt"] (defScope s_lmixed) := ⟨rfl, rfl, rfl, by decide +kernel, rfl, by decide +kernel, by decide +kernel⟩
theorem v_lmixed_0 : LV s_lmixed "_law_cell_here" := by decide +kernel
theorem v_lmixed_1 : LV s_lmixed "_law_k" := by decide +kernel
theorem v_lmixed_2 : LV s_lmixed "_law_salt" := by decide +kernel
theorem v_lmixed_3 : LV s_lmixed "_law_primes" := by decide +kernel
theorem v_lmixed_4 : LV s_lmixed "_law_one" := by decide +kernel
theorem v_lmixed_5 : LV s_lmixed "_law_two" := by decide +kernel
theorem ok_lmixed (F : Fun K "_law_mixed" "_law_mixed" s_lmixed f fd) (B : Bn mg)     :
    FnOk P w K mg base (L2N.CX P w) 2 f fd ["_law_cell_here", "_law_k", "_law_salt"] (spF K mg 3 [] f_lmixed) := by
  refine fn_ok F sc_lmixed (by decide) (by decide) fun cdv A outer s H E hr => ?_
  have nd := sc_lmixed.nd
  have tk : TkO (cxO P w K mg base N_lmixed "_law_mixed" s_lmixed f cdv A outer s H E) E := L2N.takes_of rfl rfl rfl rfl
  have pn : PnO P w (cxO P w K mg base N_lmixed "_law_mixed" s_lmixed f cdv A outer s H E) := passes_of rfl
  unfold m_lmixed
  exact mss_cons (ms_set (i := 3) nd rfl (.inl v_lmixed_3) (me_lst (ma_cons (me_int) (ma_cons (me_int) (ma_cons (me_int) (ma_cons (me_int) (ma_cons (me_int) (ma_cons (me_int) (ma_cons (me_int) (ma_cons (me_int) (ma_nil))))))))))) (mss_cons (ms_set (i := 4) nd rfl (.inl v_lmixed_4) (me_mod (me_add (me_add (me_add (me_var (i := 0) rfl (.inl v_lmixed_0)) (me_mul (me_int) (me_var (i := 2) rfl (.inl v_lmixed_2)))) (me_mul (me_int) (me_var (i := 1) rfl (.inl v_lmixed_1)))) (me_int)) (me_int))) (mss_cons (ms_set (i := 4) nd rfl (.inl v_lmixed_4) (me_mod (me_pow (me_var (i := 4) rfl (.inl v_lmixed_4)) (me_int)) (me_ix (me_var (i := 3) rfl (.inl v_lmixed_3)) (me_mod (me_var (i := 1) rfl (.inl v_lmixed_1)) (me_int))))) (mss_cons (ms_set (i := 5) nd rfl (.inl v_lmixed_5) (me_mod (me_add (me_add (me_var (i := 4) rfl (.inl v_lmixed_4)) (me_mul (me_int) (me_var (i := 2) rfl (.inl v_lmixed_2)))) (me_var (i := 1) rfl (.inl v_lmixed_1))) (me_int))) (mss_one (ms_ret (me_add (me_mul (me_mod (me_pow (me_var (i := 5) rfl (.inl v_lmixed_5)) (me_int)) (me_int)) (me_int)) (me_var (i := 4) rfl (.inl v_lmixed_4))))))))

abbrev s_ldraws : Stmt := top 20
abbrev N_ldraws : List Str := ["_law_cell_here", "_law_salt", "_law_widths", "_law_found", "_law_left", "_law_k"]
theorem sc_ldraws : FnScope N_ldraws ["_law_cell_here", "_law_salt", "_law_widths"] (defScope s_ldraws) := ⟨rfl, rfl, rfl, by decide +kernel, rfl, by decide +kernel, by decide +kernel⟩
theorem v_ldraws_0 : LV s_ldraws "_law_cell_here" := by decide +kernel
theorem v_ldraws_1 : LV s_ldraws "_law_salt" := by decide +kernel
theorem v_ldraws_2 : LV s_ldraws "_law_widths" := by decide +kernel
theorem v_ldraws_3 : LV s_ldraws "_law_found" := by decide +kernel
theorem v_ldraws_4 : LV s_ldraws "_law_left" := by decide +kernel
theorem v_ldraws_5 : LV s_ldraws "_law_k" := by decide +kernel
theorem g_ldraws_abs : GV "_law_draws" s_ldraws "abs" := fun _ _ _ => rfl
theorem g_ldraws_len : GV "_law_draws" s_ldraws "len" := fun _ _ _ => rfl
theorem g_ldraws_range : GV "_law_draws" s_ldraws "range" := fun _ _ _ => rfl
theorem g_ldraws_law_mixed : GV "_law_draws" s_ldraws "_law_mixed" := fun _ _ _ => rfl
theorem ok_ldraws (F : Fun K "_law_draws" "_law_draws" s_ldraws f fd) (B : Bn mg) (h_lmixed : Fd P w K mg base "_law_mixed" 2 ["_law_cell_here", "_law_k", "_law_salt"] [] f_lmixed)    :
    FnOk P w K mg base (L2N.CX P w) 4 f fd ["_law_cell_here", "_law_salt", "_law_widths"] (spF K mg 3 [] f_ldraws) := by
  refine fn_ok F sc_ldraws (by decide) (by decide) fun cdv A outer s H E hr => ?_
  have nd := sc_ldraws.nd
  have tk : TkO (cxO P w K mg base N_ldraws "_law_draws" s_ldraws f cdv A outer s H E) E := L2N.takes_of rfl rfl rfl rfl
  have pn : PnO P w (cxO P w K mg base N_ldraws "_law_draws" s_ldraws f cdv A outer s H E) := passes_of rfl
  unfold m_ldraws
  exact mss_cons (ms_setO (i := 3) nd rfl (.inl v_ldraws_3) (mo_lst (ma_nil))) (mss_cons (ms_set (i := 4) nd rfl (.inl v_ldraws_4) (me_int)) (mss_cons (ms_if (mt_cmp op_ge os_ge (mb_abs B.abs (ma_cons (me_var (i := 0) rfl (.inl v_ldraws_0)) (ma_nil)) (hg := (g_ldraws_abs _ _ _))) (me_pow (me_int) (me_int)) (nomark _)) (mss_one (ms_set (i := 4) nd rfl (.inl v_ldraws_4) (mb_abs B.abs (ma_cons (me_var (i := 0) rfl (.inl v_ldraws_0)) (ma_nil)) (hg := (g_ldraws_abs _ _ _))))) (mss_nil)) (mss_cons (ms_for pn rfl (mi_r1 B.range (ma_cons (mb_len B.len (ma_cons (me_var (i := 2) rfl (.inl v_ldraws_2)) (ma_nil)) (hg := (g_ldraws_len _ _ _))) (ma_nil)) (hg := (g_ldraws_range _ _ _))) (mg_name (i := 5) nd rfl (.inl v_ldraws_5)) (mss_one (ms_if (mt_cmp op_gt os_gt (me_var (i := 4) rfl (.inl v_ldraws_4)) (me_int) (nomark _)) (mss_cons (ms_expr (me_lm1 ls_append PySem.F.slot_list_append PySem.F.type_list_append mt_append (i := 3) rfl (.inl v_ldraws_3) (ma_cons (me_mod (me_var (i := 4) rfl (.inl v_ldraws_4)) (me_ix (me_var (i := 2) rfl (.inl v_ldraws_2)) (me_var (i := 5) rfl (.inl v_ldraws_5)))) (ma_nil)))) (mss_one (ms_set (i := 4) nd rfl (.inl v_ldraws_4) (me_div (me_var (i := 4) rfl (.inl v_ldraws_4)) (me_ix (me_var (i := 2) rfl (.inl v_ldraws_2)) (me_var (i := 5) rfl (.inl v_ldraws_5))))))) (mss_one (ms_expr (me_lm1 ls_append PySem.F.slot_list_append PySem.F.type_list_append mt_append (i := 3) rfl (.inl v_ldraws_3) (ma_cons (me_mod (me_fz (mf_call h_lmixed hr (by decide) tk (ma_cons (me_var (i := 0) rfl (.inl v_ldraws_0)) (ma_cons (me_var (i := 5) rfl (.inl v_ldraws_5)) (ma_cons (me_var (i := 1) rfl (.inl v_ldraws_1)) (ma_nil)))) (lng_cons (lng_cons (lng_cons lng_nil))) (hg := (g_ldraws_law_mixed _ _ _)))) (me_ix (me_var (i := 2) rfl (.inl v_ldraws_2)) (me_var (i := 5) rfl (.inl v_ldraws_5)))) (ma_nil)))))))) (mss_one (ms_retO (mo_var (i := 3) rfl (.inl v_ldraws_3)))))))

abbrev s_lthing : Stmt := top 23
abbrev N_lthing : List Str := ["_law_cell_here", "_law_salt", "_law_signs", "_law_way", "_law_many", "_law_far", "_law_k"]
theorem sc_lthing : FnScope N_lthing ["_law_cell_here", "_law_salt"] (defScope s_lthing) := ⟨rfl, rfl, rfl, by decide +kernel, rfl, by decide +kernel, by decide +kernel⟩
theorem v_lthing_0 : LV s_lthing "_law_cell_here" := by decide +kernel
theorem v_lthing_1 : LV s_lthing "_law_salt" := by decide +kernel
theorem v_lthing_2 : (defScope s_lthing).names.lookup ("_law_signs" : Str) = some NameKind.cell := by decide +kernel
theorem v_lthing_3 : LV s_lthing "_law_way" := by decide +kernel
theorem v_lthing_4 : LV s_lthing "_law_many" := by decide +kernel
theorem v_lthing_5 : (defScope s_lthing).names.lookup ("_law_far" : Str) = some NameKind.cell := by decide +kernel
theorem g_lthing_law_draws : GV "_law_thing" s_lthing "_law_draws" := fun _ _ _ => rfl
theorem g_lthing_range : GV "_law_thing" s_lthing "range" := fun _ _ _ => rfl
theorem ok_lthing (F : Fun K "_law_thing" "_law_thing" s_lthing f fd) (B : Bn mg) (h_ldraws : Fd P w K mg base "_law_draws" 4 ["_law_cell_here", "_law_salt", "_law_widths"] [] f_ldraws)    :
    FnOk P w K mg base (L2N.CX P w) 6 f fd ["_law_cell_here", "_law_salt"] (spF K mg 2 [] f_lthing) := by
  refine fn_ok F sc_lthing (by decide) (by decide) fun cdv A outer s H E hr => ?_
  have nd := sc_lthing.nd
  have tk : TkO (cxO P w K mg base N_lthing "_law_thing" s_lthing f cdv A outer s H E) E := L2N.takes_of rfl rfl rfl rfl
  have pn : PnO P w (cxO P w K mg base N_lthing "_law_thing" s_lthing f cdv A outer s H E) := passes_of rfl
  unfold m_lthing
  exact mss_cons (ms_asg (me_fz (mf_call h_ldraws hr (by decide) tk (ma_cons (me_var (i := 0) rfl (.inl v_lthing_0)) (ma_cons (me_var (i := 1) rfl (.inl v_lthing_1)) (ma_cons (me_lst (ma_cons (me_int) (ma_cons (me_int) (ma_cons (me_pow (me_int) (me_int)) (ma_nil))))) (ma_nil)))) (lng_cons (lng_cons (lng_cons lng_nil))) (hg := (g_lthing_law_draws _ _ _)))) (mg_tup rfl (mgs_cons (mg_name (i := 3) nd rfl (.inl v_lthing_3)) (mgs_cons (mg_name (i := 4) nd rfl (.inl v_lthing_4)) (mgs_cons (mg_name (i := 5) nd rfl (.inr v_lthing_5)) (mgs_nil)))))) (mss_cons (ms_if (mt_cmp op_lt os_lt (me_var (i := 3) rfl (.inl v_lthing_3)) (me_int) (nomark _)) (mss_one (ms_ret (me_mul (me_var (i := 5) rfl (.inr (.inl v_lthing_5))) (me_sub (me_int) (me_mul (me_int) (me_var (i := 3) rfl (.inl v_lthing_3))))))) (mss_nil)) (mss_cons (ms_set (i := 2) nd rfl (.inr v_lthing_2) (me_str)) (mss_one (ms_ret (me_sm ss_join PySem.F.slot_str_join PySem.F.type_str_join mt_join (me_str) (ma_cons (me_fz (mo_lc (own := [("_law_k", 6)]) (g := .nm 6) rfl nd (mi_r1 B.range (ma_cons (me_var (i := 4) rfl (.inl v_lthing_4)) (ma_nil)) (hg := (g_lthing_range _ _ _))) (blkOk_at (N' := ["_law_cell_here", "_law_salt", "_law_signs", "_law_way", "_law_many", "_law_far", "_law_k"]) (sc' := defScope s_lthing) rfl rfl (by decide +kernel)) (fun _ _ _ _ _ => pg_name (i := 6) nd rfl (Or.inl rfl)) (fun _ _ _ _ _ => mts_nil) (fun _ _ _ _ _ => me_ix (me_var (i := 2) rfl (by first | exact .inr (.inr rfl) | exact .inl rfl | exact .inr (.inl rfl))) (me_mod (me_div (me_var (i := 5) rfl (by first | exact .inr (.inr rfl) | exact .inl rfl | exact .inr (.inl rfl))) (me_add (me_var (i := 6) rfl (.inl rfl)) (me_int))) (me_int))) (hbs := hbs_of rfl))) (ma_nil)))))))

abbrev s_ljust : Stmt := top 22
abbrev N_ljust : List Str := ["_law_found", "_law_due", "_law_part", "_law_wanted"]
theorem sc_ljust : FnScope N_ljust ["_law_found", "_law_due"] (defScope s_ljust) := ⟨rfl, rfl, rfl, by decide +kernel, rfl, by decide +kernel, by decide +kernel⟩
theorem v_ljust_0 : LV s_ljust "_law_found" := by decide +kernel
theorem v_ljust_1 : LV s_ljust "_law_due" := by decide +kernel
theorem g_ljust_tuple : GV "_law_just" s_ljust "tuple" := fun _ _ _ => rfl
theorem g_ljust_isinstance : GV "_law_just" s_ljust "isinstance" := fun _ _ _ => rfl
theorem g_ljust_len : GV "_law_just" s_ljust "len" := fun _ _ _ => rfl
theorem g_ljust_zip : GV "_law_just" s_ljust "zip" := fun _ _ _ => rfl
theorem g_ljust_all : GV "_law_just" s_ljust "all" := fun _ _ _ => rfl
theorem g_ljust_str : GV "_law_just" s_ljust "str" := fun _ _ _ => rfl
theorem g_ljust_int : GV "_law_just" s_ljust "int" := fun _ _ _ => rfl
theorem g_ljust_bool : GV "_law_just" s_ljust "bool" := fun _ _ _ => rfl
theorem ok_ljust (F : Fun K "_law_just" "_law_just" s_ljust f fd) (hs : mg "_law_just" = some (.ref f)) (hk : PySem.W.keepIn K (.ref f) = true) (hb : Binds K fd ["_law_found", "_law_due"] []) (B : Bn mg)     :
    ∀ n : Nat, FnOk P w K mg base (L2N.CX P w) (2 + n) f fd ["_law_found", "_law_due"] (spF K mg 2 [] (mRec 4 [] m_ljust n)) := by
  intro n
  induction n with
  | zero => exact fn_off
  | succ n ih =>
  have h_self : Fd P w K mg base "_law_just" (2 + n) ["_law_found", "_law_due"] [] (mRec 4 [] m_ljust n) := ⟨_, _, ih, hs, hk, hb⟩
  refine fn_ok F sc_ljust (by decide) (by decide) fun cdv A outer s H E hr => ?_
  have nd := sc_ljust.nd
  have tk : TkO (cxO P w K mg base N_ljust "_law_just" s_ljust f cdv A outer s H E) E := L2N.takes_of rfl rfl rfl rfl
  have pn : PnO P w (cxO P w K mg base N_ljust "_law_just" s_ljust f cdv A outer s H E) := passes_of rfl
  show PSs _ _ (rdS _ (m_ljust (mRec 4 [] m_ljust n)))
  unfold m_ljust
  exact mss_cons (ms_if (mt_val (mb_isi B.isinstance (ma_cons (me_var (i := 1) rfl (.inl v_ljust_1)) (ma_cons (me_bltn B.tuple (by decide +kernel) (w := .ty "tuple") rfl (hg := (g_ljust_tuple _ _ _))) ma_nil)) (hg := (g_ljust_isinstance _ _ _)))) (mss_cons (ms_if (PW.pt (mw_or (mt_not (mt_val (mb_isi B.isinstance (ma_cons (me_var (i := 0) rfl (.inl v_ljust_0)) (ma_cons (me_bltn B.tuple (by decide +kernel) (w := .ty "tuple") rfl (hg := (g_ljust_tuple _ _ _))) ma_nil)) (hg := (g_ljust_isinstance _ _ _))))) (mw_one_or (mt_cmp (op_neM hr.units) os_ne (mb_len B.len (ma_cons (me_var (i := 0) rfl (.inl v_ljust_0)) (ma_nil)) (hg := (g_ljust_len _ _ _))) (mb_len B.len (ma_cons (me_var (i := 1) rfl (.inl v_ljust_1)) (ma_nil)) (hg := (g_ljust_len _ _ _))) (nomark _))))) (mss_one (ms_ret (me_bl))) (mss_nil)) (mss_one (ms_ret (mb_all rfl B.all (ma_cons (me_fz (mo_lc (own := [("_law_part", 2), ("_law_wanted", 3)]) (g := .tp [2, 3]) rfl nd (mi_zip B.zip (ma_cons (me_var (i := 0) rfl (.inl v_ljust_0)) (ma_cons (me_var (i := 1) rfl (.inl v_ljust_1)) (ma_nil))) (hg := (g_ljust_zip _ _ _))) (blkOk_at (N' := ["_law_found", "_law_due", "_law_part", "_law_wanted"]) (sc' := defScope s_ljust) rfl rfl (by decide +kernel)) (fun _ _ _ _ _ => pg_tup rfl (pgs_cons (pg_name (i := 2) nd rfl (Or.inl rfl)) (pgs_cons (pg_name (i := 3) nd rfl (Or.inl rfl)) (pgs_nil)))) (fun _ _ _ _ _ => mts_nil) (fun _ _ _ _ _ => me_fz (mf_call0 h_self hr (by first | omega | exact Nat.le_refl _) (ma_cons (me_var (i := 2) rfl (.inl rfl)) (ma_cons (me_var (i := 3) rfl (.inl rfl)) (ma_nil))) (lng_cons (lng_cons lng_nil)) (hg := rfl))) (hbs := hbs_of rfl))) (ma_nil)) (hg := (g_ljust_all _ _ _)))))) (mss_nil)) (mss_cons (ms_if (PW.pt (mw_or (mt_val (mb_isi B.isinstance (ma_cons (me_var (i := 1) rfl (.inl v_ljust_1)) (ma_cons (me_bltn B.str (by decide +kernel) (w := .ty "str") rfl (hg := (g_ljust_str _ _ _))) ma_nil)) (hg := (g_ljust_isinstance _ _ _)))) (mw_one_or (mt_cmp op_isN os_isN (me_var (i := 1) rfl (.inl v_ljust_1)) (me_non) (nomark _))))) (mss_one (ms_ret (me_and (me_cmp (op_eqM hr.units) os_eq (mb_isi B.isinstance (ma_cons (me_var (i := 0) rfl (.inl v_ljust_0)) (ma_cons (me_bltn B.str (by decide +kernel) (w := .ty "str") rfl (hg := (g_ljust_str _ _ _))) ma_nil)) (hg := (g_ljust_isinstance _ _ _))) (mb_isi B.isinstance (ma_cons (me_var (i := 1) rfl (.inl v_ljust_1)) (ma_cons (me_bltn B.str (by decide +kernel) (w := .ty "str") rfl (hg := (g_ljust_str _ _ _))) ma_nil)) (hg := (g_ljust_isinstance _ _ _))) (nomark _)) (me_one (me_cmp (op_eqM hr.units) os_eq (me_var (i := 0) rfl (.inl v_ljust_0)) (me_var (i := 1) rfl (.inl v_ljust_1)) (nomark _)))))) (mss_nil)) (mss_cons (ms_if (PW.pt (mw_or (mt_not (mt_val (mb_isi B.isinstance (ma_cons (me_var (i := 0) rfl (.inl v_ljust_0)) (ma_cons (me_bltn B.int (by decide +kernel) (w := .ty "int") rfl (hg := (g_ljust_int _ _ _))) ma_nil)) (hg := (g_ljust_isinstance _ _ _))))) (mw_one_or (mt_cmp (op_neM hr.units) os_ne (mb_isi B.isinstance (ma_cons (me_var (i := 0) rfl (.inl v_ljust_0)) (ma_cons (me_bltn B.bool (by decide +kernel) (w := .ty "bool") rfl (hg := (g_ljust_bool _ _ _))) ma_nil)) (hg := (g_ljust_isinstance _ _ _))) (mb_isi B.isinstance (ma_cons (me_var (i := 1) rfl (.inl v_ljust_1)) (ma_cons (me_bltn B.bool (by decide +kernel) (w := .ty "bool") rfl (hg := (g_ljust_bool _ _ _))) ma_nil)) (hg := (g_ljust_isinstance _ _ _))) (nomark _))))) (mss_one (ms_ret (me_bl))) (mss_nil)) (mss_one (ms_ret (me_cmp (op_eqM hr.units) os_eq (me_var (i := 0) rfl (.inl v_ljust_0)) (me_var (i := 1) rfl (.inl v_ljust_1)) (nomark _))))))

abbrev s_lsorts2 : Stmt := top 21
abbrev N_lsorts2 : List Str := ["_law_e", "_law_sorts_here", "_law_word", "_law_here"]
theorem sc_lsorts2 : FnScope N_lsorts2 ["_law_e"] (defScope s_lsorts2) := ⟨rfl, rfl, rfl, by decide +kernel, rfl, by decide +kernel, by decide +kernel⟩
theorem v_lsorts2_0 : LV s_lsorts2 "_law_e" := by decide +kernel
theorem v_lsorts2_1 : LV s_lsorts2 "_law_sorts_here" := by decide +kernel
theorem g_lsorts2_isinstance : GV "_law_sorts" s_lsorts2 "isinstance" := fun _ _ _ => rfl
theorem g_lsorts2_Wrong : GV "_law_sorts" s_lsorts2 "Wrong" := fun _ _ _ => rfl
theorem g_lsorts2_NoFit : GV "_law_sorts" s_lsorts2 "NoFit" := fun _ _ _ => rfl
theorem g_lsorts2_NoShape : GV "_law_sorts" s_lsorts2 "NoShape" := fun _ _ _ => rfl
theorem g_lsorts2_NoRow : GV "_law_sorts" s_lsorts2 "NoRow" := fun _ _ _ => rfl
theorem g_lsorts2_NoTable : GV "_law_sorts" s_lsorts2 "NoTable" := fun _ _ _ => rfl
theorem g_lsorts2_TooLong : GV "_law_sorts" s_lsorts2 "TooLong" := fun _ _ _ => rfl
theorem g_lsorts2_BadLine : GV "_law_sorts" s_lsorts2 "BadLine" := fun _ _ _ => rfl
theorem g_lsorts2_NoDeed : GV "_law_sorts" s_lsorts2 "NoDeed" := fun _ _ _ => rfl
theorem g_lsorts2_NoRule : GV "_law_sorts" s_lsorts2 "NoRule" := fun _ _ _ => rfl
theorem g_lsorts2_NoText : GV "_law_sorts" s_lsorts2 "NoText" := fun _ _ _ => rfl
theorem g_lsorts2_NoName : GV "_law_sorts" s_lsorts2 "NoName" := fun _ _ _ => rfl
theorem g_lsorts2_Unlike : GV "_law_sorts" s_lsorts2 "Unlike" := fun _ _ _ => rfl
theorem g_lsorts2_Nought : GV "_law_sorts" s_lsorts2 "Nought" := fun _ _ _ => rfl
theorem g_lsorts2_NothingDone : GV "_law_sorts" s_lsorts2 "NothingDone" := fun _ _ _ => rfl
theorem g_lsorts2_NoLine : GV "_law_sorts" s_lsorts2 "NoLine" := fun _ _ _ => rfl
theorem g_lsorts2_ValueError : GV "_law_sorts" s_lsorts2 "ValueError" := fun _ _ _ => rfl
theorem g_lsorts2_LoftError : GV "_law_sorts" s_lsorts2 "LoftError" := fun _ _ _ => rfl
theorem ok_lsorts2 (F : Fun K "_law_sorts" "_law_sorts" s_lsorts2 f fd) (B : Bn mg)   (xcls_Wrong : ∃ D, mg "Wrong" = some (.ref D)) (xexg_BadLine : FnG K mg "BadLine") (xxcf_BadLine_ : XcF K mg [] "BadLine") (xkit_Wrong_BadLine_False : KiT K mg "Wrong" "BadLine" false) (xexg_NoDeed : FnG K mg "NoDeed") (xxcf_NoDeed_ : XcF K mg [] "NoDeed") (xkit_Wrong_NoDeed_False : KiT K mg "Wrong" "NoDeed" false) (xexg_NoFit : FnG K mg "NoFit") (xxcf_NoFit_ : XcF K mg [] "NoFit") (xkit_Wrong_NoFit_False : KiT K mg "Wrong" "NoFit" false) (xexg_NoLine : FnG K mg "NoLine") (xxcf_NoLine_ : XcF K mg [] "NoLine") (xkit_Wrong_NoLine_False : KiT K mg "Wrong" "NoLine" false) (xexg_NoName : FnG K mg "NoName") (xxcf_NoName_ : XcF K mg [] "NoName") (xkit_Wrong_NoName_False : KiT K mg "Wrong" "NoName" false) (xexg_NoRow : FnG K mg "NoRow") (xxcf_NoRow_ : XcF K mg [] "NoRow") (xkit_Wrong_NoRow_False : KiT K mg "Wrong" "NoRow" false) (xexg_NoRule : FnG K mg "NoRule") (xxcf_NoRule_ : XcF K mg [] "NoRule") (xkit_Wrong_NoRule_False : KiT K mg "Wrong" "NoRule" false) (xexg_NoShape : FnG K mg "NoShape") (xxcf_NoShape_ : XcF K mg [] "NoShape") (xkit_Wrong_NoShape_False : KiT K mg "Wrong" "NoShape" false) (xexg_NoTable : FnG K mg "NoTable") (xxcf_NoTable_ : XcF K mg [] "NoTable") (xkit_Wrong_NoTable_False : KiT K mg "Wrong" "NoTable" false) (xexg_NoText : FnG K mg "NoText") (xxcf_NoText_ : XcF K mg [] "NoText") (xkit_Wrong_NoText_False : KiT K mg "Wrong" "NoText" false) (xexg_NothingDone : FnG K mg "NothingDone") (xxcf_NothingDone_ : XcF K mg [] "NothingDone") (xkit_Wrong_NothingDone_False : KiT K mg "Wrong" "NothingDone" false) (xexg_Nought : FnG K mg "Nought") (xxcf_Nought_ : XcF K mg [] "Nought") (xkit_Wrong_Nought_False : KiT K mg "Wrong" "Nought" false) (xexg_TooLong : FnG K mg "TooLong") (xxcf_TooLong_ : XcF K mg [] "TooLong") (xkit_Wrong_TooLong_False : KiT K mg "Wrong" "TooLong" false) (xexg_Unlike : FnG K mg "Unlike") (xxcf_Unlike_ : XcF K mg [] "Unlike") (xkit_Wrong_Unlike_False : KiT K mg "Wrong" "Unlike" false) (xexg_Wrong : FnG K mg "Wrong") (xxcf_Wrong_ : XcF K mg [] "Wrong") (xkit_Wrong_Wrong_True : KiT K mg "Wrong" "Wrong" true) (xcls_NoFit : ∃ D, mg "NoFit" = some (.ref D)) (xkit_NoFit_BadLine_False : KiT K mg "NoFit" "BadLine" false) (xkit_NoFit_NoDeed_False : KiT K mg "NoFit" "NoDeed" false) (xkit_NoFit_NoFit_True : KiT K mg "NoFit" "NoFit" true) (xkit_NoFit_NoLine_False : KiT K mg "NoFit" "NoLine" false) (xkit_NoFit_NoName_False : KiT K mg "NoFit" "NoName" false) (xkit_NoFit_NoRow_False : KiT K mg "NoFit" "NoRow" false) (xkit_NoFit_NoRule_False : KiT K mg "NoFit" "NoRule" false) (xkit_NoFit_NoShape_False : KiT K mg "NoFit" "NoShape" false) (xkit_NoFit_NoTable_False : KiT K mg "NoFit" "NoTable" false) (xkit_NoFit_NoText_False : KiT K mg "NoFit" "NoText" false) (xkit_NoFit_NothingDone_False : KiT K mg "NoFit" "NothingDone" false) (xkit_NoFit_Nought_False : KiT K mg "NoFit" "Nought" false) (xkit_NoFit_TooLong_False : KiT K mg "NoFit" "TooLong" false) (xkit_NoFit_Unlike_False : KiT K mg "NoFit" "Unlike" false) (xkit_NoFit_Wrong_False : KiT K mg "NoFit" "Wrong" false) (xcls_NoShape : ∃ D, mg "NoShape" = some (.ref D)) (xkit_NoShape_BadLine_False : KiT K mg "NoShape" "BadLine" false) (xkit_NoShape_NoDeed_False : KiT K mg "NoShape" "NoDeed" false) (xkit_NoShape_NoFit_False : KiT K mg "NoShape" "NoFit" false) (xkit_NoShape_NoLine_False : KiT K mg "NoShape" "NoLine" false) (xkit_NoShape_NoName_False : KiT K mg "NoShape" "NoName" false) (xkit_NoShape_NoRow_False : KiT K mg "NoShape" "NoRow" false) (xkit_NoShape_NoRule_False : KiT K mg "NoShape" "NoRule" false) (xkit_NoShape_NoShape_True : KiT K mg "NoShape" "NoShape" true) (xkit_NoShape_NoTable_False : KiT K mg "NoShape" "NoTable" false) (xkit_NoShape_NoText_False : KiT K mg "NoShape" "NoText" false) (xkit_NoShape_NothingDone_False : KiT K mg "NoShape" "NothingDone" false) (xkit_NoShape_Nought_False : KiT K mg "NoShape" "Nought" false) (xkit_NoShape_TooLong_False : KiT K mg "NoShape" "TooLong" false) (xkit_NoShape_Unlike_False : KiT K mg "NoShape" "Unlike" false) (xkit_NoShape_Wrong_False : KiT K mg "NoShape" "Wrong" false) (xcls_NoRow : ∃ D, mg "NoRow" = some (.ref D)) (xkit_NoRow_BadLine_False : KiT K mg "NoRow" "BadLine" false) (xkit_NoRow_NoDeed_False : KiT K mg "NoRow" "NoDeed" false) (xkit_NoRow_NoFit_False : KiT K mg "NoRow" "NoFit" false) (xkit_NoRow_NoLine_False : KiT K mg "NoRow" "NoLine" false) (xkit_NoRow_NoName_False : KiT K mg "NoRow" "NoName" false) (xkit_NoRow_NoRow_True : KiT K mg "NoRow" "NoRow" true) (xkit_NoRow_NoRule_False : KiT K mg "NoRow" "NoRule" false) (xkit_NoRow_NoShape_False : KiT K mg "NoRow" "NoShape" false) (xkit_NoRow_NoTable_False : KiT K mg "NoRow" "NoTable" false) (xkit_NoRow_NoText_False : KiT K mg "NoRow" "NoText" false) (xkit_NoRow_NothingDone_False : KiT K mg "NoRow" "NothingDone" false) (xkit_NoRow_Nought_False : KiT K mg "NoRow" "Nought" false) (xkit_NoRow_TooLong_False : KiT K mg "NoRow" "TooLong" false) (xkit_NoRow_Unlike_False : KiT K mg "NoRow" "Unlike" false) (xkit_NoRow_Wrong_False : KiT K mg "NoRow" "Wrong" false) (xcls_NoTable : ∃ D, mg "NoTable" = some (.ref D)) (xkit_NoTable_BadLine_False : KiT K mg "NoTable" "BadLine" false) (xkit_NoTable_NoDeed_False : KiT K mg "NoTable" "NoDeed" false) (xkit_NoTable_NoFit_False : KiT K mg "NoTable" "NoFit" false) (xkit_NoTable_NoLine_False : KiT K mg "NoTable" "NoLine" false) (xkit_NoTable_NoName_False : KiT K mg "NoTable" "NoName" false) (xkit_NoTable_NoRow_False : KiT K mg "NoTable" "NoRow" false) (xkit_NoTable_NoRule_False : KiT K mg "NoTable" "NoRule" false) (xkit_NoTable_NoShape_False : KiT K mg "NoTable" "NoShape" false) (xkit_NoTable_NoTable_True : KiT K mg "NoTable" "NoTable" true) (xkit_NoTable_NoText_False : KiT K mg "NoTable" "NoText" false) (xkit_NoTable_NothingDone_False : KiT K mg "NoTable" "NothingDone" false) (xkit_NoTable_Nought_False : KiT K mg "NoTable" "Nought" false) (xkit_NoTable_TooLong_False : KiT K mg "NoTable" "TooLong" false) (xkit_NoTable_Unlike_False : KiT K mg "NoTable" "Unlike" false) (xkit_NoTable_Wrong_False : KiT K mg "NoTable" "Wrong" false) (xcls_TooLong : ∃ D, mg "TooLong" = some (.ref D)) (xkit_TooLong_BadLine_False : KiT K mg "TooLong" "BadLine" false) (xkit_TooLong_NoDeed_False : KiT K mg "TooLong" "NoDeed" false) (xkit_TooLong_NoFit_False : KiT K mg "TooLong" "NoFit" false) (xkit_TooLong_NoLine_False : KiT K mg "TooLong" "NoLine" false) (xkit_TooLong_NoName_False : KiT K mg "TooLong" "NoName" false) (xkit_TooLong_NoRow_False : KiT K mg "TooLong" "NoRow" false) (xkit_TooLong_NoRule_False : KiT K mg "TooLong" "NoRule" false) (xkit_TooLong_NoShape_False : KiT K mg "TooLong" "NoShape" false) (xkit_TooLong_NoTable_False : KiT K mg "TooLong" "NoTable" false) (xkit_TooLong_NoText_False : KiT K mg "TooLong" "NoText" false) (xkit_TooLong_NothingDone_False : KiT K mg "TooLong" "NothingDone" false) (xkit_TooLong_Nought_False : KiT K mg "TooLong" "Nought" false) (xkit_TooLong_TooLong_True : KiT K mg "TooLong" "TooLong" true) (xkit_TooLong_Unlike_False : KiT K mg "TooLong" "Unlike" false) (xkit_TooLong_Wrong_False : KiT K mg "TooLong" "Wrong" false) (xcls_BadLine : ∃ D, mg "BadLine" = some (.ref D)) (xkit_BadLine_BadLine_True : KiT K mg "BadLine" "BadLine" true) (xkit_BadLine_NoDeed_False : KiT K mg "BadLine" "NoDeed" false) (xkit_BadLine_NoFit_False : KiT K mg "BadLine" "NoFit" false) (xkit_BadLine_NoLine_False : KiT K mg "BadLine" "NoLine" false) (xkit_BadLine_NoName_False : KiT K mg "BadLine" "NoName" false) (xkit_BadLine_NoRow_False : KiT K mg "BadLine" "NoRow" false) (xkit_BadLine_NoRule_False : KiT K mg "BadLine" "NoRule" false) (xkit_BadLine_NoShape_False : KiT K mg "BadLine" "NoShape" false) (xkit_BadLine_NoTable_False : KiT K mg "BadLine" "NoTable" false) (xkit_BadLine_NoText_False : KiT K mg "BadLine" "NoText" false) (xkit_BadLine_NothingDone_False : KiT K mg "BadLine" "NothingDone" false) (xkit_BadLine_Nought_False : KiT K mg "BadLine" "Nought" false) (xkit_BadLine_TooLong_False : KiT K mg "BadLine" "TooLong" false) (xkit_BadLine_Unlike_False : KiT K mg "BadLine" "Unlike" false) (xkit_BadLine_Wrong_False : KiT K mg "BadLine" "Wrong" false) (xcls_NoDeed : ∃ D, mg "NoDeed" = some (.ref D)) (xkit_NoDeed_BadLine_False : KiT K mg "NoDeed" "BadLine" false) (xkit_NoDeed_NoDeed_True : KiT K mg "NoDeed" "NoDeed" true) (xkit_NoDeed_NoFit_False : KiT K mg "NoDeed" "NoFit" false) (xkit_NoDeed_NoLine_False : KiT K mg "NoDeed" "NoLine" false) (xkit_NoDeed_NoName_False : KiT K mg "NoDeed" "NoName" false) (xkit_NoDeed_NoRow_False : KiT K mg "NoDeed" "NoRow" false) (xkit_NoDeed_NoRule_False : KiT K mg "NoDeed" "NoRule" false) (xkit_NoDeed_NoShape_False : KiT K mg "NoDeed" "NoShape" false) (xkit_NoDeed_NoTable_False : KiT K mg "NoDeed" "NoTable" false) (xkit_NoDeed_NoText_False : KiT K mg "NoDeed" "NoText" false) (xkit_NoDeed_NothingDone_False : KiT K mg "NoDeed" "NothingDone" false) (xkit_NoDeed_Nought_False : KiT K mg "NoDeed" "Nought" false) (xkit_NoDeed_TooLong_False : KiT K mg "NoDeed" "TooLong" false) (xkit_NoDeed_Unlike_False : KiT K mg "NoDeed" "Unlike" false) (xkit_NoDeed_Wrong_False : KiT K mg "NoDeed" "Wrong" false) (xcls_NoRule : ∃ D, mg "NoRule" = some (.ref D)) (xkit_NoRule_BadLine_False : KiT K mg "NoRule" "BadLine" false) (xkit_NoRule_NoDeed_False : KiT K mg "NoRule" "NoDeed" false) (xkit_NoRule_NoFit_False : KiT K mg "NoRule" "NoFit" false) (xkit_NoRule_NoLine_False : KiT K mg "NoRule" "NoLine" false) (xkit_NoRule_NoName_False : KiT K mg "NoRule" "NoName" false) (xkit_NoRule_NoRow_False : KiT K mg "NoRule" "NoRow" false) (xkit_NoRule_NoRule_True : KiT K mg "NoRule" "NoRule" true) (xkit_NoRule_NoShape_False : KiT K mg "NoRule" "NoShape" false) (xkit_NoRule_NoTable_False : KiT K mg "NoRule" "NoTable" false) (xkit_NoRule_NoText_False : KiT K mg "NoRule" "NoText" false) (xkit_NoRule_NothingDone_False : KiT K mg "NoRule" "NothingDone" false) (xkit_NoRule_Nought_False : KiT K mg "NoRule" "Nought" false) (xkit_NoRule_TooLong_False : KiT K mg "NoRule" "TooLong" false) (xkit_NoRule_Unlike_False : KiT K mg "NoRule" "Unlike" false) (xkit_NoRule_Wrong_False : KiT K mg "NoRule" "Wrong" false) (xcls_NoText : ∃ D, mg "NoText" = some (.ref D)) (xkit_NoText_BadLine_False : KiT K mg "NoText" "BadLine" false) (xkit_NoText_NoDeed_False : KiT K mg "NoText" "NoDeed" false) (xkit_NoText_NoFit_False : KiT K mg "NoText" "NoFit" false) (xkit_NoText_NoLine_False : KiT K mg "NoText" "NoLine" false) (xkit_NoText_NoName_False : KiT K mg "NoText" "NoName" false) (xkit_NoText_NoRow_False : KiT K mg "NoText" "NoRow" false) (xkit_NoText_NoRule_False : KiT K mg "NoText" "NoRule" false) (xkit_NoText_NoShape_False : KiT K mg "NoText" "NoShape" false) (xkit_NoText_NoTable_False : KiT K mg "NoText" "NoTable" false) (xkit_NoText_NoText_True : KiT K mg "NoText" "NoText" true) (xkit_NoText_NothingDone_False : KiT K mg "NoText" "NothingDone" false) (xkit_NoText_Nought_False : KiT K mg "NoText" "Nought" false) (xkit_NoText_TooLong_False : KiT K mg "NoText" "TooLong" false) (xkit_NoText_Unlike_False : KiT K mg "NoText" "Unlike" false) (xkit_NoText_Wrong_False : KiT K mg "NoText" "Wrong" false) (xcls_NoName : ∃ D, mg "NoName" = some (.ref D)) (xkit_NoName_BadLine_False : KiT K mg "NoName" "BadLine" false) (xkit_NoName_NoDeed_False : KiT K mg "NoName" "NoDeed" false) (xkit_NoName_NoFit_False : KiT K mg "NoName" "NoFit" false) (xkit_NoName_NoLine_False : KiT K mg "NoName" "NoLine" false) (xkit_NoName_NoName_True : KiT K mg "NoName" "NoName" true) (xkit_NoName_NoRow_False : KiT K mg "NoName" "NoRow" false) (xkit_NoName_NoRule_False : KiT K mg "NoName" "NoRule" false) (xkit_NoName_NoShape_False : KiT K mg "NoName" "NoShape" false) (xkit_NoName_NoTable_False : KiT K mg "NoName" "NoTable" false) (xkit_NoName_NoText_False : KiT K mg "NoName" "NoText" false) (xkit_NoName_NothingDone_False : KiT K mg "NoName" "NothingDone" false) (xkit_NoName_Nought_False : KiT K mg "NoName" "Nought" false) (xkit_NoName_TooLong_False : KiT K mg "NoName" "TooLong" false) (xkit_NoName_Unlike_False : KiT K mg "NoName" "Unlike" false) (xkit_NoName_Wrong_False : KiT K mg "NoName" "Wrong" false) (xcls_Unlike : ∃ D, mg "Unlike" = some (.ref D)) (xkit_Unlike_BadLine_False : KiT K mg "Unlike" "BadLine" false) (xkit_Unlike_NoDeed_False : KiT K mg "Unlike" "NoDeed" false) (xkit_Unlike_NoFit_False : KiT K mg "Unlike" "NoFit" false) (xkit_Unlike_NoLine_False : KiT K mg "Unlike" "NoLine" false) (xkit_Unlike_NoName_False : KiT K mg "Unlike" "NoName" false) (xkit_Unlike_NoRow_False : KiT K mg "Unlike" "NoRow" false) (xkit_Unlike_NoRule_False : KiT K mg "Unlike" "NoRule" false) (xkit_Unlike_NoShape_False : KiT K mg "Unlike" "NoShape" false) (xkit_Unlike_NoTable_False : KiT K mg "Unlike" "NoTable" false) (xkit_Unlike_NoText_False : KiT K mg "Unlike" "NoText" false) (xkit_Unlike_NothingDone_False : KiT K mg "Unlike" "NothingDone" false) (xkit_Unlike_Nought_False : KiT K mg "Unlike" "Nought" false) (xkit_Unlike_TooLong_False : KiT K mg "Unlike" "TooLong" false) (xkit_Unlike_Unlike_True : KiT K mg "Unlike" "Unlike" true) (xkit_Unlike_Wrong_False : KiT K mg "Unlike" "Wrong" false) (xcls_Nought : ∃ D, mg "Nought" = some (.ref D)) (xkit_Nought_BadLine_False : KiT K mg "Nought" "BadLine" false) (xkit_Nought_NoDeed_False : KiT K mg "Nought" "NoDeed" false) (xkit_Nought_NoFit_False : KiT K mg "Nought" "NoFit" false) (xkit_Nought_NoLine_False : KiT K mg "Nought" "NoLine" false) (xkit_Nought_NoName_False : KiT K mg "Nought" "NoName" false) (xkit_Nought_NoRow_False : KiT K mg "Nought" "NoRow" false) (xkit_Nought_NoRule_False : KiT K mg "Nought" "NoRule" false) (xkit_Nought_NoShape_False : KiT K mg "Nought" "NoShape" false) (xkit_Nought_NoTable_False : KiT K mg "Nought" "NoTable" false) (xkit_Nought_NoText_False : KiT K mg "Nought" "NoText" false) (xkit_Nought_NothingDone_False : KiT K mg "Nought" "NothingDone" false) (xkit_Nought_Nought_True : KiT K mg "Nought" "Nought" true) (xkit_Nought_TooLong_False : KiT K mg "Nought" "TooLong" false) (xkit_Nought_Unlike_False : KiT K mg "Nought" "Unlike" false) (xkit_Nought_Wrong_False : KiT K mg "Nought" "Wrong" false) (xcls_NothingDone : ∃ D, mg "NothingDone" = some (.ref D)) (xkit_NothingDone_BadLine_False : KiT K mg "NothingDone" "BadLine" false) (xkit_NothingDone_NoDeed_False : KiT K mg "NothingDone" "NoDeed" false) (xkit_NothingDone_NoFit_False : KiT K mg "NothingDone" "NoFit" false) (xkit_NothingDone_NoLine_False : KiT K mg "NothingDone" "NoLine" false) (xkit_NothingDone_NoName_False : KiT K mg "NothingDone" "NoName" false) (xkit_NothingDone_NoRow_False : KiT K mg "NothingDone" "NoRow" false) (xkit_NothingDone_NoRule_False : KiT K mg "NothingDone" "NoRule" false) (xkit_NothingDone_NoShape_False : KiT K mg "NothingDone" "NoShape" false) (xkit_NothingDone_NoTable_False : KiT K mg "NothingDone" "NoTable" false) (xkit_NothingDone_NoText_False : KiT K mg "NothingDone" "NoText" false) (xkit_NothingDone_NothingDone_True : KiT K mg "NothingDone" "NothingDone" true) (xkit_NothingDone_Nought_False : KiT K mg "NothingDone" "Nought" false) (xkit_NothingDone_TooLong_False : KiT K mg "NothingDone" "TooLong" false) (xkit_NothingDone_Unlike_False : KiT K mg "NothingDone" "Unlike" false) (xkit_NothingDone_Wrong_False : KiT K mg "NothingDone" "Wrong" false) (xcls_NoLine : ∃ D, mg "NoLine" = some (.ref D)) (xkit_NoLine_BadLine_False : KiT K mg "NoLine" "BadLine" false) (xkit_NoLine_NoDeed_False : KiT K mg "NoLine" "NoDeed" false) (xkit_NoLine_NoFit_False : KiT K mg "NoLine" "NoFit" false) (xkit_NoLine_NoLine_True : KiT K mg "NoLine" "NoLine" true) (xkit_NoLine_NoName_False : KiT K mg "NoLine" "NoName" false) (xkit_NoLine_NoRow_False : KiT K mg "NoLine" "NoRow" false) (xkit_NoLine_NoRule_False : KiT K mg "NoLine" "NoRule" false) (xkit_NoLine_NoShape_False : KiT K mg "NoLine" "NoShape" false) (xkit_NoLine_NoTable_False : KiT K mg "NoLine" "NoTable" false) (xkit_NoLine_NoText_False : KiT K mg "NoLine" "NoText" false) (xkit_NoLine_NothingDone_False : KiT K mg "NoLine" "NothingDone" false) (xkit_NoLine_Nought_False : KiT K mg "NoLine" "Nought" false) (xkit_NoLine_TooLong_False : KiT K mg "NoLine" "TooLong" false) (xkit_NoLine_Unlike_False : KiT K mg "NoLine" "Unlike" false) (xkit_NoLine_Wrong_False : KiT K mg "NoLine" "Wrong" false) (xnog_ValueError : mg "ValueError" = none) (xkib_ValueError_BadLine : KiB K mg "ValueError" "BadLine") (xkib_ValueError_NoDeed : KiB K mg "ValueError" "NoDeed") (xkib_ValueError_NoFit : KiB K mg "ValueError" "NoFit") (xkib_ValueError_NoLine : KiB K mg "ValueError" "NoLine") (xkib_ValueError_NoName : KiB K mg "ValueError" "NoName") (xkib_ValueError_NoRow : KiB K mg "ValueError" "NoRow") (xkib_ValueError_NoRule : KiB K mg "ValueError" "NoRule") (xkib_ValueError_NoShape : KiB K mg "ValueError" "NoShape") (xkib_ValueError_NoTable : KiB K mg "ValueError" "NoTable") (xkib_ValueError_NoText : KiB K mg "ValueError" "NoText") (xkib_ValueError_NothingDone : KiB K mg "ValueError" "NothingDone") (xkib_ValueError_Nought : KiB K mg "ValueError" "Nought") (xkib_ValueError_TooLong : KiB K mg "ValueError" "TooLong") (xkib_ValueError_Unlike : KiB K mg "ValueError" "Unlike") (xkib_ValueError_Wrong : KiB K mg "ValueError" "Wrong") (xcls_LoftError : ∃ D, mg "LoftError" = some (.ref D)) (xkit_LoftError_BadLine_True : KiT K mg "LoftError" "BadLine" true) (xkit_LoftError_NoDeed_True : KiT K mg "LoftError" "NoDeed" true) (xkit_LoftError_NoFit_True : KiT K mg "LoftError" "NoFit" true) (xkit_LoftError_NoLine_True : KiT K mg "LoftError" "NoLine" true) (xkit_LoftError_NoName_True : KiT K mg "LoftError" "NoName" true) (xkit_LoftError_NoRow_True : KiT K mg "LoftError" "NoRow" true) (xkit_LoftError_NoRule_True : KiT K mg "LoftError" "NoRule" true) (xkit_LoftError_NoShape_True : KiT K mg "LoftError" "NoShape" true) (xkit_LoftError_NoTable_True : KiT K mg "LoftError" "NoTable" true) (xkit_LoftError_NoText_True : KiT K mg "LoftError" "NoText" true) (xkit_LoftError_NothingDone_True : KiT K mg "LoftError" "NothingDone" true) (xkit_LoftError_Nought_True : KiT K mg "LoftError" "Nought" true) (xkit_LoftError_TooLong_True : KiT K mg "LoftError" "TooLong" true) (xkit_LoftError_Unlike_True : KiT K mg "LoftError" "Unlike" true) (xkit_LoftError_Wrong_True : KiT K mg "LoftError" "Wrong" true)  :
    FnOk P w K mg base (L2N.CX P w) 2 f fd ["_law_e"] (spF K mg 1 [] f_lsorts2) := by
  refine fn_ok F sc_lsorts2 (by decide) (by decide) fun cdv A outer s H E hr => ?_
  have nd := sc_lsorts2.nd
  have tk : TkO (cxO P w K mg base N_lsorts2 "_law_sorts" s_lsorts2 f cdv A outer s H E) E := L2N.takes_of rfl rfl rfl rfl
  have pn : PnO P w (cxO P w K mg base N_lsorts2 "_law_sorts" s_lsorts2 f cdv A outer s H E) := passes_of rfl
  unfold m_lsorts2
  exact mss_cons (ms_set (i := 1) nd rfl (.inl v_lsorts2_1) (me_lst (ma_cons (me_tup (ma_cons (me_str) (ma_cons (me_isV (i := 0) rfl (.inl v_lsorts2_0) B.isinstance (g_lsorts2_isinstance _ _ _) (g_lsorts2_NoShape _ _ _) xcls_NoShape (fa_cons (fun D hy => xv_k hy xexg_BadLine xxcf_BadLine_ xkit_NoShape_BadLine_False) (fa_cons (fun D hy => xv_k hy xexg_NoDeed xxcf_NoDeed_ xkit_NoShape_NoDeed_False) (fa_cons (fun D hy => xv_k hy xexg_NoFit xxcf_NoFit_ xkit_NoShape_NoFit_False) (fa_cons (fun D hy => xv_k hy xexg_NoLine xxcf_NoLine_ xkit_NoShape_NoLine_False) (fa_cons (fun D hy => xv_k hy xexg_NoName xxcf_NoName_ xkit_NoShape_NoName_False) (fa_cons (fun D hy => xv_k hy xexg_NoRow xxcf_NoRow_ xkit_NoShape_NoRow_False) (fa_cons (fun D hy => xv_k hy xexg_NoRule xxcf_NoRule_ xkit_NoShape_NoRule_False) (fa_cons (fun D hy => xv_k hy xexg_NoShape xxcf_NoShape_ xkit_NoShape_NoShape_True) (fa_cons (fun D hy => xv_k hy xexg_NoTable xxcf_NoTable_ xkit_NoShape_NoTable_False) (fa_cons (fun D hy => xv_k hy xexg_NoText xxcf_NoText_ xkit_NoShape_NoText_False) (fa_cons (fun D hy => xv_k hy xexg_NothingDone xxcf_NothingDone_ xkit_NoShape_NothingDone_False) (fa_cons (fun D hy => xv_k hy xexg_Nought xxcf_Nought_ xkit_NoShape_Nought_False) (fa_cons (fun D hy => xv_k hy xexg_TooLong xxcf_TooLong_ xkit_NoShape_TooLong_False) (fa_cons (fun D hy => xv_k hy xexg_Unlike xxcf_Unlike_ xkit_NoShape_Unlike_False) (fa_cons (fun D hy => xv_k hy xexg_Wrong xxcf_Wrong_ xkit_NoShape_Wrong_False) (fa_nil))))))))))))))))) (ma_nil)))) (ma_cons (me_tup (ma_cons (me_str) (ma_cons (me_isV (i := 0) rfl (.inl v_lsorts2_0) B.isinstance (g_lsorts2_isinstance _ _ _) (g_lsorts2_NoFit _ _ _) xcls_NoFit (fa_cons (fun D hy => xv_k hy xexg_BadLine xxcf_BadLine_ xkit_NoFit_BadLine_False) (fa_cons (fun D hy => xv_k hy xexg_NoDeed xxcf_NoDeed_ xkit_NoFit_NoDeed_False) (fa_cons (fun D hy => xv_k hy xexg_NoFit xxcf_NoFit_ xkit_NoFit_NoFit_True) (fa_cons (fun D hy => xv_k hy xexg_NoLine xxcf_NoLine_ xkit_NoFit_NoLine_False) (fa_cons (fun D hy => xv_k hy xexg_NoName xxcf_NoName_ xkit_NoFit_NoName_False) (fa_cons (fun D hy => xv_k hy xexg_NoRow xxcf_NoRow_ xkit_NoFit_NoRow_False) (fa_cons (fun D hy => xv_k hy xexg_NoRule xxcf_NoRule_ xkit_NoFit_NoRule_False) (fa_cons (fun D hy => xv_k hy xexg_NoShape xxcf_NoShape_ xkit_NoFit_NoShape_False) (fa_cons (fun D hy => xv_k hy xexg_NoTable xxcf_NoTable_ xkit_NoFit_NoTable_False) (fa_cons (fun D hy => xv_k hy xexg_NoText xxcf_NoText_ xkit_NoFit_NoText_False) (fa_cons (fun D hy => xv_k hy xexg_NothingDone xxcf_NothingDone_ xkit_NoFit_NothingDone_False) (fa_cons (fun D hy => xv_k hy xexg_Nought xxcf_Nought_ xkit_NoFit_Nought_False) (fa_cons (fun D hy => xv_k hy xexg_TooLong xxcf_TooLong_ xkit_NoFit_TooLong_False) (fa_cons (fun D hy => xv_k hy xexg_Unlike xxcf_Unlike_ xkit_NoFit_Unlike_False) (fa_cons (fun D hy => xv_k hy xexg_Wrong xxcf_Wrong_ xkit_NoFit_Wrong_False) (fa_nil))))))))))))))))) (ma_nil)))) (ma_cons (me_tup (ma_cons (me_str) (ma_cons (me_isV (i := 0) rfl (.inl v_lsorts2_0) B.isinstance (g_lsorts2_isinstance _ _ _) (g_lsorts2_Wrong _ _ _) xcls_Wrong (fa_cons (fun D hy => xv_k hy xexg_BadLine xxcf_BadLine_ xkit_Wrong_BadLine_False) (fa_cons (fun D hy => xv_k hy xexg_NoDeed xxcf_NoDeed_ xkit_Wrong_NoDeed_False) (fa_cons (fun D hy => xv_k hy xexg_NoFit xxcf_NoFit_ xkit_Wrong_NoFit_False) (fa_cons (fun D hy => xv_k hy xexg_NoLine xxcf_NoLine_ xkit_Wrong_NoLine_False) (fa_cons (fun D hy => xv_k hy xexg_NoName xxcf_NoName_ xkit_Wrong_NoName_False) (fa_cons (fun D hy => xv_k hy xexg_NoRow xxcf_NoRow_ xkit_Wrong_NoRow_False) (fa_cons (fun D hy => xv_k hy xexg_NoRule xxcf_NoRule_ xkit_Wrong_NoRule_False) (fa_cons (fun D hy => xv_k hy xexg_NoShape xxcf_NoShape_ xkit_Wrong_NoShape_False) (fa_cons (fun D hy => xv_k hy xexg_NoTable xxcf_NoTable_ xkit_Wrong_NoTable_False) (fa_cons (fun D hy => xv_k hy xexg_NoText xxcf_NoText_ xkit_Wrong_NoText_False) (fa_cons (fun D hy => xv_k hy xexg_NothingDone xxcf_NothingDone_ xkit_Wrong_NothingDone_False) (fa_cons (fun D hy => xv_k hy xexg_Nought xxcf_Nought_ xkit_Wrong_Nought_False) (fa_cons (fun D hy => xv_k hy xexg_TooLong xxcf_TooLong_ xkit_Wrong_TooLong_False) (fa_cons (fun D hy => xv_k hy xexg_Unlike xxcf_Unlike_ xkit_Wrong_Unlike_False) (fa_cons (fun D hy => xv_k hy xexg_Wrong xxcf_Wrong_ xkit_Wrong_Wrong_True) (fa_nil))))))))))))))))) (ma_nil)))) (ma_nil)))))) (mss_cons (ms_set (i := 1) nd rfl (.inl v_lsorts2_1) (me_add (me_var (i := 1) rfl (.inl v_lsorts2_1)) (me_lst (ma_cons (me_tup (ma_cons (me_str) (ma_cons (me_isV (i := 0) rfl (.inl v_lsorts2_0) B.isinstance (g_lsorts2_isinstance _ _ _) (g_lsorts2_NoTable _ _ _) xcls_NoTable (fa_cons (fun D hy => xv_k hy xexg_BadLine xxcf_BadLine_ xkit_NoTable_BadLine_False) (fa_cons (fun D hy => xv_k hy xexg_NoDeed xxcf_NoDeed_ xkit_NoTable_NoDeed_False) (fa_cons (fun D hy => xv_k hy xexg_NoFit xxcf_NoFit_ xkit_NoTable_NoFit_False) (fa_cons (fun D hy => xv_k hy xexg_NoLine xxcf_NoLine_ xkit_NoTable_NoLine_False) (fa_cons (fun D hy => xv_k hy xexg_NoName xxcf_NoName_ xkit_NoTable_NoName_False) (fa_cons (fun D hy => xv_k hy xexg_NoRow xxcf_NoRow_ xkit_NoTable_NoRow_False) (fa_cons (fun D hy => xv_k hy xexg_NoRule xxcf_NoRule_ xkit_NoTable_NoRule_False) (fa_cons (fun D hy => xv_k hy xexg_NoShape xxcf_NoShape_ xkit_NoTable_NoShape_False) (fa_cons (fun D hy => xv_k hy xexg_NoTable xxcf_NoTable_ xkit_NoTable_NoTable_True) (fa_cons (fun D hy => xv_k hy xexg_NoText xxcf_NoText_ xkit_NoTable_NoText_False) (fa_cons (fun D hy => xv_k hy xexg_NothingDone xxcf_NothingDone_ xkit_NoTable_NothingDone_False) (fa_cons (fun D hy => xv_k hy xexg_Nought xxcf_Nought_ xkit_NoTable_Nought_False) (fa_cons (fun D hy => xv_k hy xexg_TooLong xxcf_TooLong_ xkit_NoTable_TooLong_False) (fa_cons (fun D hy => xv_k hy xexg_Unlike xxcf_Unlike_ xkit_NoTable_Unlike_False) (fa_cons (fun D hy => xv_k hy xexg_Wrong xxcf_Wrong_ xkit_NoTable_Wrong_False) (fa_nil))))))))))))))))) (ma_nil)))) (ma_cons (me_tup (ma_cons (me_str) (ma_cons (me_isV (i := 0) rfl (.inl v_lsorts2_0) B.isinstance (g_lsorts2_isinstance _ _ _) (g_lsorts2_NoRow _ _ _) xcls_NoRow (fa_cons (fun D hy => xv_k hy xexg_BadLine xxcf_BadLine_ xkit_NoRow_BadLine_False) (fa_cons (fun D hy => xv_k hy xexg_NoDeed xxcf_NoDeed_ xkit_NoRow_NoDeed_False) (fa_cons (fun D hy => xv_k hy xexg_NoFit xxcf_NoFit_ xkit_NoRow_NoFit_False) (fa_cons (fun D hy => xv_k hy xexg_NoLine xxcf_NoLine_ xkit_NoRow_NoLine_False) (fa_cons (fun D hy => xv_k hy xexg_NoName xxcf_NoName_ xkit_NoRow_NoName_False) (fa_cons (fun D hy => xv_k hy xexg_NoRow xxcf_NoRow_ xkit_NoRow_NoRow_True) (fa_cons (fun D hy => xv_k hy xexg_NoRule xxcf_NoRule_ xkit_NoRow_NoRule_False) (fa_cons (fun D hy => xv_k hy xexg_NoShape xxcf_NoShape_ xkit_NoRow_NoShape_False) (fa_cons (fun D hy => xv_k hy xexg_NoTable xxcf_NoTable_ xkit_NoRow_NoTable_False) (fa_cons (fun D hy => xv_k hy xexg_NoText xxcf_NoText_ xkit_NoRow_NoText_False) (fa_cons (fun D hy => xv_k hy xexg_NothingDone xxcf_NothingDone_ xkit_NoRow_NothingDone_False) (fa_cons (fun D hy => xv_k hy xexg_Nought xxcf_Nought_ xkit_NoRow_Nought_False) (fa_cons (fun D hy => xv_k hy xexg_TooLong xxcf_TooLong_ xkit_NoRow_TooLong_False) (fa_cons (fun D hy => xv_k hy xexg_Unlike xxcf_Unlike_ xkit_NoRow_Unlike_False) (fa_cons (fun D hy => xv_k hy xexg_Wrong xxcf_Wrong_ xkit_NoRow_Wrong_False) (fa_nil))))))))))))))))) (ma_nil)))) (ma_nil)))))) (mss_cons (ms_set (i := 1) nd rfl (.inl v_lsorts2_1) (me_add (me_var (i := 1) rfl (.inl v_lsorts2_1)) (me_lst (ma_cons (me_tup (ma_cons (me_str) (ma_cons (me_isV (i := 0) rfl (.inl v_lsorts2_0) B.isinstance (g_lsorts2_isinstance _ _ _) (g_lsorts2_BadLine _ _ _) xcls_BadLine (fa_cons (fun D hy => xv_k hy xexg_BadLine xxcf_BadLine_ xkit_BadLine_BadLine_True) (fa_cons (fun D hy => xv_k hy xexg_NoDeed xxcf_NoDeed_ xkit_BadLine_NoDeed_False) (fa_cons (fun D hy => xv_k hy xexg_NoFit xxcf_NoFit_ xkit_BadLine_NoFit_False) (fa_cons (fun D hy => xv_k hy xexg_NoLine xxcf_NoLine_ xkit_BadLine_NoLine_False) (fa_cons (fun D hy => xv_k hy xexg_NoName xxcf_NoName_ xkit_BadLine_NoName_False) (fa_cons (fun D hy => xv_k hy xexg_NoRow xxcf_NoRow_ xkit_BadLine_NoRow_False) (fa_cons (fun D hy => xv_k hy xexg_NoRule xxcf_NoRule_ xkit_BadLine_NoRule_False) (fa_cons (fun D hy => xv_k hy xexg_NoShape xxcf_NoShape_ xkit_BadLine_NoShape_False) (fa_cons (fun D hy => xv_k hy xexg_NoTable xxcf_NoTable_ xkit_BadLine_NoTable_False) (fa_cons (fun D hy => xv_k hy xexg_NoText xxcf_NoText_ xkit_BadLine_NoText_False) (fa_cons (fun D hy => xv_k hy xexg_NothingDone xxcf_NothingDone_ xkit_BadLine_NothingDone_False) (fa_cons (fun D hy => xv_k hy xexg_Nought xxcf_Nought_ xkit_BadLine_Nought_False) (fa_cons (fun D hy => xv_k hy xexg_TooLong xxcf_TooLong_ xkit_BadLine_TooLong_False) (fa_cons (fun D hy => xv_k hy xexg_Unlike xxcf_Unlike_ xkit_BadLine_Unlike_False) (fa_cons (fun D hy => xv_k hy xexg_Wrong xxcf_Wrong_ xkit_BadLine_Wrong_False) (fa_nil))))))))))))))))) (ma_nil)))) (ma_cons (me_tup (ma_cons (me_str) (ma_cons (me_isV (i := 0) rfl (.inl v_lsorts2_0) B.isinstance (g_lsorts2_isinstance _ _ _) (g_lsorts2_TooLong _ _ _) xcls_TooLong (fa_cons (fun D hy => xv_k hy xexg_BadLine xxcf_BadLine_ xkit_TooLong_BadLine_False) (fa_cons (fun D hy => xv_k hy xexg_NoDeed xxcf_NoDeed_ xkit_TooLong_NoDeed_False) (fa_cons (fun D hy => xv_k hy xexg_NoFit xxcf_NoFit_ xkit_TooLong_NoFit_False) (fa_cons (fun D hy => xv_k hy xexg_NoLine xxcf_NoLine_ xkit_TooLong_NoLine_False) (fa_cons (fun D hy => xv_k hy xexg_NoName xxcf_NoName_ xkit_TooLong_NoName_False) (fa_cons (fun D hy => xv_k hy xexg_NoRow xxcf_NoRow_ xkit_TooLong_NoRow_False) (fa_cons (fun D hy => xv_k hy xexg_NoRule xxcf_NoRule_ xkit_TooLong_NoRule_False) (fa_cons (fun D hy => xv_k hy xexg_NoShape xxcf_NoShape_ xkit_TooLong_NoShape_False) (fa_cons (fun D hy => xv_k hy xexg_NoTable xxcf_NoTable_ xkit_TooLong_NoTable_False) (fa_cons (fun D hy => xv_k hy xexg_NoText xxcf_NoText_ xkit_TooLong_NoText_False) (fa_cons (fun D hy => xv_k hy xexg_NothingDone xxcf_NothingDone_ xkit_TooLong_NothingDone_False) (fa_cons (fun D hy => xv_k hy xexg_Nought xxcf_Nought_ xkit_TooLong_Nought_False) (fa_cons (fun D hy => xv_k hy xexg_TooLong xxcf_TooLong_ xkit_TooLong_TooLong_True) (fa_cons (fun D hy => xv_k hy xexg_Unlike xxcf_Unlike_ xkit_TooLong_Unlike_False) (fa_cons (fun D hy => xv_k hy xexg_Wrong xxcf_Wrong_ xkit_TooLong_Wrong_False) (fa_nil))))))))))))))))) (ma_nil)))) (ma_nil)))))) (mss_cons (ms_set (i := 1) nd rfl (.inl v_lsorts2_1) (me_add (me_var (i := 1) rfl (.inl v_lsorts2_1)) (me_lst (ma_cons (me_tup (ma_cons (me_str) (ma_cons (me_isV (i := 0) rfl (.inl v_lsorts2_0) B.isinstance (g_lsorts2_isinstance _ _ _) (g_lsorts2_NoRule _ _ _) xcls_NoRule (fa_cons (fun D hy => xv_k hy xexg_BadLine xxcf_BadLine_ xkit_NoRule_BadLine_False) (fa_cons (fun D hy => xv_k hy xexg_NoDeed xxcf_NoDeed_ xkit_NoRule_NoDeed_False) (fa_cons (fun D hy => xv_k hy xexg_NoFit xxcf_NoFit_ xkit_NoRule_NoFit_False) (fa_cons (fun D hy => xv_k hy xexg_NoLine xxcf_NoLine_ xkit_NoRule_NoLine_False) (fa_cons (fun D hy => xv_k hy xexg_NoName xxcf_NoName_ xkit_NoRule_NoName_False) (fa_cons (fun D hy => xv_k hy xexg_NoRow xxcf_NoRow_ xkit_NoRule_NoRow_False) (fa_cons (fun D hy => xv_k hy xexg_NoRule xxcf_NoRule_ xkit_NoRule_NoRule_True) (fa_cons (fun D hy => xv_k hy xexg_NoShape xxcf_NoShape_ xkit_NoRule_NoShape_False) (fa_cons (fun D hy => xv_k hy xexg_NoTable xxcf_NoTable_ xkit_NoRule_NoTable_False) (fa_cons (fun D hy => xv_k hy xexg_NoText xxcf_NoText_ xkit_NoRule_NoText_False) (fa_cons (fun D hy => xv_k hy xexg_NothingDone xxcf_NothingDone_ xkit_NoRule_NothingDone_False) (fa_cons (fun D hy => xv_k hy xexg_Nought xxcf_Nought_ xkit_NoRule_Nought_False) (fa_cons (fun D hy => xv_k hy xexg_TooLong xxcf_TooLong_ xkit_NoRule_TooLong_False) (fa_cons (fun D hy => xv_k hy xexg_Unlike xxcf_Unlike_ xkit_NoRule_Unlike_False) (fa_cons (fun D hy => xv_k hy xexg_Wrong xxcf_Wrong_ xkit_NoRule_Wrong_False) (fa_nil))))))))))))))))) (ma_nil)))) (ma_cons (me_tup (ma_cons (me_str) (ma_cons (me_isV (i := 0) rfl (.inl v_lsorts2_0) B.isinstance (g_lsorts2_isinstance _ _ _) (g_lsorts2_NoDeed _ _ _) xcls_NoDeed (fa_cons (fun D hy => xv_k hy xexg_BadLine xxcf_BadLine_ xkit_NoDeed_BadLine_False) (fa_cons (fun D hy => xv_k hy xexg_NoDeed xxcf_NoDeed_ xkit_NoDeed_NoDeed_True) (fa_cons (fun D hy => xv_k hy xexg_NoFit xxcf_NoFit_ xkit_NoDeed_NoFit_False) (fa_cons (fun D hy => xv_k hy xexg_NoLine xxcf_NoLine_ xkit_NoDeed_NoLine_False) (fa_cons (fun D hy => xv_k hy xexg_NoName xxcf_NoName_ xkit_NoDeed_NoName_False) (fa_cons (fun D hy => xv_k hy xexg_NoRow xxcf_NoRow_ xkit_NoDeed_NoRow_False) (fa_cons (fun D hy => xv_k hy xexg_NoRule xxcf_NoRule_ xkit_NoDeed_NoRule_False) (fa_cons (fun D hy => xv_k hy xexg_NoShape xxcf_NoShape_ xkit_NoDeed_NoShape_False) (fa_cons (fun D hy => xv_k hy xexg_NoTable xxcf_NoTable_ xkit_NoDeed_NoTable_False) (fa_cons (fun D hy => xv_k hy xexg_NoText xxcf_NoText_ xkit_NoDeed_NoText_False) (fa_cons (fun D hy => xv_k hy xexg_NothingDone xxcf_NothingDone_ xkit_NoDeed_NothingDone_False) (fa_cons (fun D hy => xv_k hy xexg_Nought xxcf_Nought_ xkit_NoDeed_Nought_False) (fa_cons (fun D hy => xv_k hy xexg_TooLong xxcf_TooLong_ xkit_NoDeed_TooLong_False) (fa_cons (fun D hy => xv_k hy xexg_Unlike xxcf_Unlike_ xkit_NoDeed_Unlike_False) (fa_cons (fun D hy => xv_k hy xexg_Wrong xxcf_Wrong_ xkit_NoDeed_Wrong_False) (fa_nil))))))))))))))))) (ma_nil)))) (ma_nil)))))) (mss_cons (ms_set (i := 1) nd rfl (.inl v_lsorts2_1) (me_add (me_var (i := 1) rfl (.inl v_lsorts2_1)) (me_lst (ma_cons (me_tup (ma_cons (me_str) (ma_cons (me_isV (i := 0) rfl (.inl v_lsorts2_0) B.isinstance (g_lsorts2_isinstance _ _ _) (g_lsorts2_NoName _ _ _) xcls_NoName (fa_cons (fun D hy => xv_k hy xexg_BadLine xxcf_BadLine_ xkit_NoName_BadLine_False) (fa_cons (fun D hy => xv_k hy xexg_NoDeed xxcf_NoDeed_ xkit_NoName_NoDeed_False) (fa_cons (fun D hy => xv_k hy xexg_NoFit xxcf_NoFit_ xkit_NoName_NoFit_False) (fa_cons (fun D hy => xv_k hy xexg_NoLine xxcf_NoLine_ xkit_NoName_NoLine_False) (fa_cons (fun D hy => xv_k hy xexg_NoName xxcf_NoName_ xkit_NoName_NoName_True) (fa_cons (fun D hy => xv_k hy xexg_NoRow xxcf_NoRow_ xkit_NoName_NoRow_False) (fa_cons (fun D hy => xv_k hy xexg_NoRule xxcf_NoRule_ xkit_NoName_NoRule_False) (fa_cons (fun D hy => xv_k hy xexg_NoShape xxcf_NoShape_ xkit_NoName_NoShape_False) (fa_cons (fun D hy => xv_k hy xexg_NoTable xxcf_NoTable_ xkit_NoName_NoTable_False) (fa_cons (fun D hy => xv_k hy xexg_NoText xxcf_NoText_ xkit_NoName_NoText_False) (fa_cons (fun D hy => xv_k hy xexg_NothingDone xxcf_NothingDone_ xkit_NoName_NothingDone_False) (fa_cons (fun D hy => xv_k hy xexg_Nought xxcf_Nought_ xkit_NoName_Nought_False) (fa_cons (fun D hy => xv_k hy xexg_TooLong xxcf_TooLong_ xkit_NoName_TooLong_False) (fa_cons (fun D hy => xv_k hy xexg_Unlike xxcf_Unlike_ xkit_NoName_Unlike_False) (fa_cons (fun D hy => xv_k hy xexg_Wrong xxcf_Wrong_ xkit_NoName_Wrong_False) (fa_nil))))))))))))))))) (ma_nil)))) (ma_cons (me_tup (ma_cons (me_str) (ma_cons (me_isV (i := 0) rfl (.inl v_lsorts2_0) B.isinstance (g_lsorts2_isinstance _ _ _) (g_lsorts2_NoText _ _ _) xcls_NoText (fa_cons (fun D hy => xv_k hy xexg_BadLine xxcf_BadLine_ xkit_NoText_BadLine_False) (fa_cons (fun D hy => xv_k hy xexg_NoDeed xxcf_NoDeed_ xkit_NoText_NoDeed_False) (fa_cons (fun D hy => xv_k hy xexg_NoFit xxcf_NoFit_ xkit_NoText_NoFit_False) (fa_cons (fun D hy => xv_k hy xexg_NoLine xxcf_NoLine_ xkit_NoText_NoLine_False) (fa_cons (fun D hy => xv_k hy xexg_NoName xxcf_NoName_ xkit_NoText_NoName_False) (fa_cons (fun D hy => xv_k hy xexg_NoRow xxcf_NoRow_ xkit_NoText_NoRow_False) (fa_cons (fun D hy => xv_k hy xexg_NoRule xxcf_NoRule_ xkit_NoText_NoRule_False) (fa_cons (fun D hy => xv_k hy xexg_NoShape xxcf_NoShape_ xkit_NoText_NoShape_False) (fa_cons (fun D hy => xv_k hy xexg_NoTable xxcf_NoTable_ xkit_NoText_NoTable_False) (fa_cons (fun D hy => xv_k hy xexg_NoText xxcf_NoText_ xkit_NoText_NoText_True) (fa_cons (fun D hy => xv_k hy xexg_NothingDone xxcf_NothingDone_ xkit_NoText_NothingDone_False) (fa_cons (fun D hy => xv_k hy xexg_Nought xxcf_Nought_ xkit_NoText_Nought_False) (fa_cons (fun D hy => xv_k hy xexg_TooLong xxcf_TooLong_ xkit_NoText_TooLong_False) (fa_cons (fun D hy => xv_k hy xexg_Unlike xxcf_Unlike_ xkit_NoText_Unlike_False) (fa_cons (fun D hy => xv_k hy xexg_Wrong xxcf_Wrong_ xkit_NoText_Wrong_False) (fa_nil))))))))))))))))) (ma_nil)))) (ma_nil)))))) (mss_cons (ms_set (i := 1) nd rfl (.inl v_lsorts2_1) (me_add (me_var (i := 1) rfl (.inl v_lsorts2_1)) (me_lst (ma_cons (me_tup (ma_cons (me_str) (ma_cons (me_isV (i := 0) rfl (.inl v_lsorts2_0) B.isinstance (g_lsorts2_isinstance _ _ _) (g_lsorts2_Nought _ _ _) xcls_Nought (fa_cons (fun D hy => xv_k hy xexg_BadLine xxcf_BadLine_ xkit_Nought_BadLine_False) (fa_cons (fun D hy => xv_k hy xexg_NoDeed xxcf_NoDeed_ xkit_Nought_NoDeed_False) (fa_cons (fun D hy => xv_k hy xexg_NoFit xxcf_NoFit_ xkit_Nought_NoFit_False) (fa_cons (fun D hy => xv_k hy xexg_NoLine xxcf_NoLine_ xkit_Nought_NoLine_False) (fa_cons (fun D hy => xv_k hy xexg_NoName xxcf_NoName_ xkit_Nought_NoName_False) (fa_cons (fun D hy => xv_k hy xexg_NoRow xxcf_NoRow_ xkit_Nought_NoRow_False) (fa_cons (fun D hy => xv_k hy xexg_NoRule xxcf_NoRule_ xkit_Nought_NoRule_False) (fa_cons (fun D hy => xv_k hy xexg_NoShape xxcf_NoShape_ xkit_Nought_NoShape_False) (fa_cons (fun D hy => xv_k hy xexg_NoTable xxcf_NoTable_ xkit_Nought_NoTable_False) (fa_cons (fun D hy => xv_k hy xexg_NoText xxcf_NoText_ xkit_Nought_NoText_False) (fa_cons (fun D hy => xv_k hy xexg_NothingDone xxcf_NothingDone_ xkit_Nought_NothingDone_False) (fa_cons (fun D hy => xv_k hy xexg_Nought xxcf_Nought_ xkit_Nought_Nought_True) (fa_cons (fun D hy => xv_k hy xexg_TooLong xxcf_TooLong_ xkit_Nought_TooLong_False) (fa_cons (fun D hy => xv_k hy xexg_Unlike xxcf_Unlike_ xkit_Nought_Unlike_False) (fa_cons (fun D hy => xv_k hy xexg_Wrong xxcf_Wrong_ xkit_Nought_Wrong_False) (fa_nil))))))))))))))))) (ma_nil)))) (ma_cons (me_tup (ma_cons (me_str) (ma_cons (me_isV (i := 0) rfl (.inl v_lsorts2_0) B.isinstance (g_lsorts2_isinstance _ _ _) (g_lsorts2_Unlike _ _ _) xcls_Unlike (fa_cons (fun D hy => xv_k hy xexg_BadLine xxcf_BadLine_ xkit_Unlike_BadLine_False) (fa_cons (fun D hy => xv_k hy xexg_NoDeed xxcf_NoDeed_ xkit_Unlike_NoDeed_False) (fa_cons (fun D hy => xv_k hy xexg_NoFit xxcf_NoFit_ xkit_Unlike_NoFit_False) (fa_cons (fun D hy => xv_k hy xexg_NoLine xxcf_NoLine_ xkit_Unlike_NoLine_False) (fa_cons (fun D hy => xv_k hy xexg_NoName xxcf_NoName_ xkit_Unlike_NoName_False) (fa_cons (fun D hy => xv_k hy xexg_NoRow xxcf_NoRow_ xkit_Unlike_NoRow_False) (fa_cons (fun D hy => xv_k hy xexg_NoRule xxcf_NoRule_ xkit_Unlike_NoRule_False) (fa_cons (fun D hy => xv_k hy xexg_NoShape xxcf_NoShape_ xkit_Unlike_NoShape_False) (fa_cons (fun D hy => xv_k hy xexg_NoTable xxcf_NoTable_ xkit_Unlike_NoTable_False) (fa_cons (fun D hy => xv_k hy xexg_NoText xxcf_NoText_ xkit_Unlike_NoText_False) (fa_cons (fun D hy => xv_k hy xexg_NothingDone xxcf_NothingDone_ xkit_Unlike_NothingDone_False) (fa_cons (fun D hy => xv_k hy xexg_Nought xxcf_Nought_ xkit_Unlike_Nought_False) (fa_cons (fun D hy => xv_k hy xexg_TooLong xxcf_TooLong_ xkit_Unlike_TooLong_False) (fa_cons (fun D hy => xv_k hy xexg_Unlike xxcf_Unlike_ xkit_Unlike_Unlike_True) (fa_cons (fun D hy => xv_k hy xexg_Wrong xxcf_Wrong_ xkit_Unlike_Wrong_False) (fa_nil))))))))))))))))) (ma_nil)))) (ma_nil)))))) (mss_cons (ms_set (i := 1) nd rfl (.inl v_lsorts2_1) (me_add (me_var (i := 1) rfl (.inl v_lsorts2_1)) (me_lst (ma_cons (me_tup (ma_cons (me_str) (ma_cons (me_isV (i := 0) rfl (.inl v_lsorts2_0) B.isinstance (g_lsorts2_isinstance _ _ _) (g_lsorts2_NoLine _ _ _) xcls_NoLine (fa_cons (fun D hy => xv_k hy xexg_BadLine xxcf_BadLine_ xkit_NoLine_BadLine_False) (fa_cons (fun D hy => xv_k hy xexg_NoDeed xxcf_NoDeed_ xkit_NoLine_NoDeed_False) (fa_cons (fun D hy => xv_k hy xexg_NoFit xxcf_NoFit_ xkit_NoLine_NoFit_False) (fa_cons (fun D hy => xv_k hy xexg_NoLine xxcf_NoLine_ xkit_NoLine_NoLine_True) (fa_cons (fun D hy => xv_k hy xexg_NoName xxcf_NoName_ xkit_NoLine_NoName_False) (fa_cons (fun D hy => xv_k hy xexg_NoRow xxcf_NoRow_ xkit_NoLine_NoRow_False) (fa_cons (fun D hy => xv_k hy xexg_NoRule xxcf_NoRule_ xkit_NoLine_NoRule_False) (fa_cons (fun D hy => xv_k hy xexg_NoShape xxcf_NoShape_ xkit_NoLine_NoShape_False) (fa_cons (fun D hy => xv_k hy xexg_NoTable xxcf_NoTable_ xkit_NoLine_NoTable_False) (fa_cons (fun D hy => xv_k hy xexg_NoText xxcf_NoText_ xkit_NoLine_NoText_False) (fa_cons (fun D hy => xv_k hy xexg_NothingDone xxcf_NothingDone_ xkit_NoLine_NothingDone_False) (fa_cons (fun D hy => xv_k hy xexg_Nought xxcf_Nought_ xkit_NoLine_Nought_False) (fa_cons (fun D hy => xv_k hy xexg_TooLong xxcf_TooLong_ xkit_NoLine_TooLong_False) (fa_cons (fun D hy => xv_k hy xexg_Unlike xxcf_Unlike_ xkit_NoLine_Unlike_False) (fa_cons (fun D hy => xv_k hy xexg_Wrong xxcf_Wrong_ xkit_NoLine_Wrong_False) (fa_nil))))))))))))))))) (ma_nil)))) (ma_cons (me_tup (ma_cons (me_str) (ma_cons (me_isV (i := 0) rfl (.inl v_lsorts2_0) B.isinstance (g_lsorts2_isinstance _ _ _) (g_lsorts2_NothingDone _ _ _) xcls_NothingDone (fa_cons (fun D hy => xv_k hy xexg_BadLine xxcf_BadLine_ xkit_NothingDone_BadLine_False) (fa_cons (fun D hy => xv_k hy xexg_NoDeed xxcf_NoDeed_ xkit_NothingDone_NoDeed_False) (fa_cons (fun D hy => xv_k hy xexg_NoFit xxcf_NoFit_ xkit_NothingDone_NoFit_False) (fa_cons (fun D hy => xv_k hy xexg_NoLine xxcf_NoLine_ xkit_NothingDone_NoLine_False) (fa_cons (fun D hy => xv_k hy xexg_NoName xxcf_NoName_ xkit_NothingDone_NoName_False) (fa_cons (fun D hy => xv_k hy xexg_NoRow xxcf_NoRow_ xkit_NothingDone_NoRow_False) (fa_cons (fun D hy => xv_k hy xexg_NoRule xxcf_NoRule_ xkit_NothingDone_NoRule_False) (fa_cons (fun D hy => xv_k hy xexg_NoShape xxcf_NoShape_ xkit_NothingDone_NoShape_False) (fa_cons (fun D hy => xv_k hy xexg_NoTable xxcf_NoTable_ xkit_NothingDone_NoTable_False) (fa_cons (fun D hy => xv_k hy xexg_NoText xxcf_NoText_ xkit_NothingDone_NoText_False) (fa_cons (fun D hy => xv_k hy xexg_NothingDone xxcf_NothingDone_ xkit_NothingDone_NothingDone_True) (fa_cons (fun D hy => xv_k hy xexg_Nought xxcf_Nought_ xkit_NothingDone_Nought_False) (fa_cons (fun D hy => xv_k hy xexg_TooLong xxcf_TooLong_ xkit_NothingDone_TooLong_False) (fa_cons (fun D hy => xv_k hy xexg_Unlike xxcf_Unlike_ xkit_NothingDone_Unlike_False) (fa_cons (fun D hy => xv_k hy xexg_Wrong xxcf_Wrong_ xkit_NothingDone_Wrong_False) (fa_nil))))))))))))))))) (ma_nil)))) (ma_nil)))))) (mss_cons (ms_set (i := 1) nd rfl (.inl v_lsorts2_1) (me_add (me_var (i := 1) rfl (.inl v_lsorts2_1)) (me_lst (ma_cons (me_tup (ma_cons (me_str) (ma_cons (me_not (me_isV (i := 0) rfl (.inl v_lsorts2_0) B.isinstance (g_lsorts2_isinstance _ _ _) (g_lsorts2_LoftError _ _ _) xcls_LoftError (fa_cons (fun D hy => xv_k hy xexg_BadLine xxcf_BadLine_ xkit_LoftError_BadLine_True) (fa_cons (fun D hy => xv_k hy xexg_NoDeed xxcf_NoDeed_ xkit_LoftError_NoDeed_True) (fa_cons (fun D hy => xv_k hy xexg_NoFit xxcf_NoFit_ xkit_LoftError_NoFit_True) (fa_cons (fun D hy => xv_k hy xexg_NoLine xxcf_NoLine_ xkit_LoftError_NoLine_True) (fa_cons (fun D hy => xv_k hy xexg_NoName xxcf_NoName_ xkit_LoftError_NoName_True) (fa_cons (fun D hy => xv_k hy xexg_NoRow xxcf_NoRow_ xkit_LoftError_NoRow_True) (fa_cons (fun D hy => xv_k hy xexg_NoRule xxcf_NoRule_ xkit_LoftError_NoRule_True) (fa_cons (fun D hy => xv_k hy xexg_NoShape xxcf_NoShape_ xkit_LoftError_NoShape_True) (fa_cons (fun D hy => xv_k hy xexg_NoTable xxcf_NoTable_ xkit_LoftError_NoTable_True) (fa_cons (fun D hy => xv_k hy xexg_NoText xxcf_NoText_ xkit_LoftError_NoText_True) (fa_cons (fun D hy => xv_k hy xexg_NothingDone xxcf_NothingDone_ xkit_LoftError_NothingDone_True) (fa_cons (fun D hy => xv_k hy xexg_Nought xxcf_Nought_ xkit_LoftError_Nought_True) (fa_cons (fun D hy => xv_k hy xexg_TooLong xxcf_TooLong_ xkit_LoftError_TooLong_True) (fa_cons (fun D hy => xv_k hy xexg_Unlike xxcf_Unlike_ xkit_LoftError_Unlike_True) (fa_cons (fun D hy => xv_k hy xexg_Wrong xxcf_Wrong_ xkit_LoftError_Wrong_True) (fa_nil)))))))))))))))))) (ma_nil)))) (ma_cons (me_tup (ma_cons (me_str) (ma_cons (me_not (me_isVT (i := 0) rfl (.inl v_lsorts2_0) B.isinstance (g_lsorts2_isinstance _ _ _) (g_lsorts2_ValueError _ _ _) xnog_ValueError (by decide +kernel) (fa_cons (xv_b xexg_BadLine xxcf_BadLine_ xkib_ValueError_BadLine) (fa_cons (xv_b xexg_NoDeed xxcf_NoDeed_ xkib_ValueError_NoDeed) (fa_cons (xv_b xexg_NoFit xxcf_NoFit_ xkib_ValueError_NoFit) (fa_cons (xv_b xexg_NoLine xxcf_NoLine_ xkib_ValueError_NoLine) (fa_cons (xv_b xexg_NoName xxcf_NoName_ xkib_ValueError_NoName) (fa_cons (xv_b xexg_NoRow xxcf_NoRow_ xkib_ValueError_NoRow) (fa_cons (xv_b xexg_NoRule xxcf_NoRule_ xkib_ValueError_NoRule) (fa_cons (xv_b xexg_NoShape xxcf_NoShape_ xkib_ValueError_NoShape) (fa_cons (xv_b xexg_NoTable xxcf_NoTable_ xkib_ValueError_NoTable) (fa_cons (xv_b xexg_NoText xxcf_NoText_ xkib_ValueError_NoText) (fa_cons (xv_b xexg_NothingDone xxcf_NothingDone_ xkib_ValueError_NothingDone) (fa_cons (xv_b xexg_Nought xxcf_Nought_ xkib_ValueError_Nought) (fa_cons (xv_b xexg_TooLong xxcf_TooLong_ xkib_ValueError_TooLong) (fa_cons (xv_b xexg_Unlike xxcf_Unlike_ xkib_ValueError_Unlike) (fa_cons (xv_b xexg_Wrong xxcf_Wrong_ xkib_ValueError_Wrong) (fa_nil)))))))))))))))))) (ma_nil)))) (ma_nil)))))) (mss_one (ms_ret (me_sm ss_join PySem.F.slot_str_join PySem.F.type_str_join mt_join (me_str) (ma_cons (me_fz (mo_lc (own := [("_law_word", 2), ("_law_here", 3)]) (g := .tp [2, 3]) rfl nd (mi_val (me_var (i := 1) rfl (.inl v_lsorts2_1))) (blkOk_at (N' := ["_law_e", "_law_sorts_here", "_law_word", "_law_here"]) (sc' := defScope s_lsorts2) rfl rfl (by decide +kernel)) (fun _ _ _ _ _ => pg_tup rfl (pgs_cons (pg_name (i := 2) nd rfl (Or.inl rfl)) (pgs_cons (pg_name (i := 3) nd rfl (Or.inl rfl)) (pgs_nil)))) (fun _ _ _ _ _ => mts_one (mt_val (me_var (i := 3) rfl (.inl rfl)))) (fun _ _ _ _ _ => me_var (i := 2) rfl (.inl rfl)) (hbs := hbs_of rfl))) (ma_nil))))))))))))

abbrev s_lfields2 : Stmt := top 27
abbrev N_lfields2 : List Str := ["_law_e", "_law_which"]
theorem sc_lfields2 : FnScope N_lfields2 ["_law_e", "_law_which"] (defScope s_lfields2) := ⟨rfl, rfl, rfl, by decide +kernel, rfl, by decide +kernel, by decide +kernel⟩
theorem v_lfields2_0 : LV s_lfields2 "_law_e" := by decide +kernel
theorem v_lfields2_1 : LV s_lfields2 "_law_which" := by decide +kernel
theorem ok_lfields2 (F : Fun K "_law_fields" "_law_fields" s_lfields2 f fd) (B : Bn mg)   (xexg_NoShape : FnG K mg "NoShape") (xxcf_NoShape_part : XcF K mg ["part"] "NoShape") (xexg_NoFit : FnG K mg "NoFit") (xexg_TooLong : FnG K mg "TooLong") (xxcf_NoFit_number : XcF K mg ["number"] "NoFit") (xxcf_TooLong_number : XcF K mg ["number"] "TooLong") (xexg_Wrong : FnG K mg "Wrong") (xxcf_Wrong_why : XcF K mg ["why"] "Wrong") (xxcf_Wrong_place : XcF K mg ["place"] "Wrong") (xexg_BadLine : FnG K mg "BadLine") (xexg_NoRow : FnG K mg "NoRow") (xexg_NoTable : FnG K mg "NoTable") (xxcf_BadLine_at : XcF K mg ["at"] "BadLine") (xxcf_NoRow_at : XcF K mg ["at"] "NoRow") (xxcf_NoTable_at : XcF K mg ["at"] "NoTable") (xexg_NoRule : FnG K mg "NoRule") (xxcf_NoRule_rule : XcF K mg ["rule"] "NoRule") (xexg_NoDeed : FnG K mg "NoDeed") (xxcf_NoDeed_deed : XcF K mg ["deed"] "NoDeed") (xexg_NoName : FnG K mg "NoName") (xxcf_NoName_name : XcF K mg ["name"] "NoName")  :
    FnOk P w K mg base (L2N.CX P w) 2 f fd ["_law_e", "_law_which"] (spF K mg 2 [] f_lfields2) := by
  refine fn_ok F sc_lfields2 (by decide) (by decide) fun cdv A outer s H E hr => ?_
  have nd := sc_lfields2.nd
  have tk : TkO (cxO P w K mg base N_lfields2 "_law_fields" s_lfields2 f cdv A outer s H E) E := L2N.takes_of rfl rfl rfl rfl
  have pn : PnO P w (cxO P w K mg base N_lfields2 "_law_fields" s_lfields2 f cdv A outer s H E) := passes_of rfl
  unfold m_lfields2
  exact mss_cons (ms_if (mt_cmp (op_eqM hr.units) os_eq (me_var (i := 1) rfl (.inl v_lfields2_1)) (me_int) (nomark _)) (mss_one (ms_ret (me_tup (ma_cons (me_xv (i := 0) (ts := ["NoShape"]) rfl (.inl v_lfields2_0) (fa_cons xexg_NoShape (fa_nil)) (fa_cons xxcf_NoShape_part (fa_nil))) (ma_nil))))) (mss_nil)) (mss_cons (ms_if (mt_cmp op_inM os_in (me_var (i := 1) rfl (.inl v_lfields2_1)) (me_tup (ma_cons (me_int) (ma_cons (me_int) (ma_nil)))) rfl) (mss_one (ms_ret (me_tup (ma_cons (me_xv (i := 0) (ts := ["NoFit", "TooLong"]) rfl (.inl v_lfields2_0) (fa_cons xexg_NoFit (fa_cons xexg_TooLong (fa_nil))) (fa_cons xxcf_NoFit_number (fa_cons xxcf_TooLong_number (fa_nil)))) (ma_nil))))) (mss_nil)) (mss_cons (ms_if (mt_cmp (op_eqM hr.units) os_eq (me_var (i := 1) rfl (.inl v_lfields2_1)) (me_int) (nomark _)) (mss_one (ms_ret (me_tup (ma_cons (me_xv (i := 0) (ts := ["Wrong"]) rfl (.inl v_lfields2_0) (fa_cons xexg_Wrong (fa_nil)) (fa_cons xxcf_Wrong_place (fa_nil))) (ma_cons (me_xv (i := 0) (ts := ["Wrong"]) rfl (.inl v_lfields2_0) (fa_cons xexg_Wrong (fa_nil)) (fa_cons xxcf_Wrong_why (fa_nil))) (ma_nil)))))) (mss_nil)) (mss_cons (ms_if (mt_cmp op_lt os_lt (me_var (i := 1) rfl (.inl v_lfields2_1)) (me_int) (nomark _)) (mss_one (ms_ret (me_tup (ma_cons (me_xv (i := 0) (ts := ["BadLine", "NoRow", "NoTable"]) rfl (.inl v_lfields2_0) (fa_cons xexg_BadLine (fa_cons xexg_NoRow (fa_cons xexg_NoTable (fa_nil)))) (fa_cons xxcf_BadLine_at (fa_cons xxcf_NoRow_at (fa_cons xxcf_NoTable_at (fa_nil))))) (ma_nil))))) (mss_nil)) (mss_cons (ms_if (mt_cmp (op_eqM hr.units) os_eq (me_var (i := 1) rfl (.inl v_lfields2_1)) (me_int) (nomark _)) (mss_one (ms_ret (me_tup (ma_cons (me_xv (i := 0) (ts := ["NoRule"]) rfl (.inl v_lfields2_0) (fa_cons xexg_NoRule (fa_nil)) (fa_cons xxcf_NoRule_rule (fa_nil))) (ma_nil))))) (mss_nil)) (mss_cons (ms_if (mt_cmp (op_eqM hr.units) os_eq (me_var (i := 1) rfl (.inl v_lfields2_1)) (me_int) (nomark _)) (mss_one (ms_ret (me_tup (ma_cons (me_xv (i := 0) (ts := ["NoDeed"]) rfl (.inl v_lfields2_0) (fa_cons xexg_NoDeed (fa_nil)) (fa_cons xxcf_NoDeed_deed (fa_nil))) (ma_nil))))) (mss_nil)) (mss_cons (ms_if (mt_cmp (op_eqM hr.units) os_eq (me_var (i := 1) rfl (.inl v_lfields2_1)) (me_int) (nomark _)) (mss_one (ms_ret (me_tup (ma_cons (me_xv (i := 0) (ts := ["NoName"]) rfl (.inl v_lfields2_0) (fa_cons xexg_NoName (fa_nil)) (fa_cons xxcf_NoName_name (fa_nil))) (ma_nil))))) (mss_nil)) (mss_one (ms_ret (me_tup (ma_nil))))))))))

abbrev s_lright11 : Stmt := top 28
abbrev N_lright11 : List Str := ["_law_e", "_law_which", "_law_word", "_law_first", "_law_second", "_law_due"]
theorem sc_lright11 : FnScope N_lright11 ["_law_e", "_law_which", "_law_word", "_law_first", "_law_second"] (defScope s_lright11) := ⟨rfl, rfl, rfl, by decide +kernel, rfl, by decide +kernel, by decide +kernel⟩
theorem v_lright11_0 : LV s_lright11 "_law_e" := by decide +kernel
theorem v_lright11_1 : LV s_lright11 "_law_which" := by decide +kernel
theorem v_lright11_2 : LV s_lright11 "_law_word" := by decide +kernel
theorem v_lright11_3 : LV s_lright11 "_law_first" := by decide +kernel
theorem v_lright11_4 : LV s_lright11 "_law_second" := by decide +kernel
theorem v_lright11_5 : LV s_lright11 "_law_due" := by decide +kernel
theorem g_lright11_int : GV "_law_right" s_lright11 "int" := fun _ _ _ => rfl
theorem g_lright11_law_sorts : GV "_law_right" s_lright11 "_law_sorts" := fun _ _ _ => rfl
theorem g_lright11_law_fields : GV "_law_right" s_lright11 "_law_fields" := fun _ _ _ => rfl
theorem g_lright11_law_just : GV "_law_right" s_lright11 "_law_just" := fun _ _ _ => rfl
theorem ok_lright11 (F : Fun K "_law_right" "_law_right" s_lright11 f fd) (B : Bn mg) (h_lsorts2 : Fd P w K mg base "_law_sorts" 2 ["_law_e"] [] f_lsorts2) (h_ljust : Fd P w K mg base "_law_just" 10 ["_law_found", "_law_due"] [] f_ljust) (h_lfields2 : Fd P w K mg base "_law_fields" 2 ["_law_e", "_law_which"] [] f_lfields2)    :
    FnOk P w K mg base (L2N.CX P w) 12 f fd ["_law_e", "_law_which", "_law_word", "_law_first", "_law_second"] (spF K mg 5 [] f_lright11) := by
  refine fn_ok F sc_lright11 (by decide) (by decide) fun cdv A outer s H E hr => ?_
  have nd := sc_lright11.nd
  have tk : TkO (cxO P w K mg base N_lright11 "_law_right" s_lright11 f cdv A outer s H E) E := L2N.takes_of rfl rfl rfl rfl
  have pn : PnO P w (cxO P w K mg base N_lright11 "_law_right" s_lright11 f cdv A outer s H E) := passes_of rfl
  unfold m_lright11
  exact mss_cons (ms_set (i := 5) nd rfl (.inl v_lright11_5) (me_ix (me_tup (ma_cons (me_tup (ma_cons (me_var (i := 3) rfl (.inl v_lright11_3)) (ma_nil))) (ma_cons (me_tup (ma_cons (me_var (i := 3) rfl (.inl v_lright11_3)) (ma_cons (me_var (i := 4) rfl (.inl v_lright11_4)) (ma_nil)))) (ma_cons (me_tup (ma_nil)) (ma_nil))))) (me_add (mb_int B.int (ma_cons (me_cmp (op_eqM hr.units) os_eq (me_var (i := 1) rfl (.inl v_lright11_1)) (me_int) (nomark _)) (ma_nil)) (hg := (g_lright11_int _ _ _))) (me_mul (me_int) (mb_int B.int (ma_cons (me_cmp op_gt os_gt (me_var (i := 1) rfl (.inl v_lright11_1)) (me_int) (nomark _)) (ma_nil)) (hg := (g_lright11_int _ _ _))))))) (mss_one (ms_ret (me_and (me_cmp op_notN os_notN (me_var (i := 0) rfl (.inl v_lright11_0)) (me_non) (nomark _)) (me_and (me_cmp (op_eqM hr.units) os_eq (me_fz (mf_call h_lsorts2 hr (by decide) tk (ma_cons (me_var (i := 0) rfl (.inl v_lright11_0)) (ma_nil)) (lng_cons lng_nil) (hg := (g_lright11_law_sorts _ _ _)))) (me_var (i := 2) rfl (.inl v_lright11_2)) (nomark _)) (me_one (me_fz (mf_call h_ljust hr (by decide) tk (ma_cons (me_fz (mf_call h_lfields2 hr (by decide) tk (ma_cons (me_var (i := 0) rfl (.inl v_lright11_0)) (ma_cons (me_var (i := 1) rfl (.inl v_lright11_1)) (ma_nil))) (lng_cons (lng_cons lng_nil)) (hg := (g_lright11_law_fields _ _ _)))) (ma_cons (me_var (i := 5) rfl (.inl v_lright11_5)) (ma_nil))) (lng_cons (lng_cons lng_nil)) (hg := (g_lright11_law_just _ _ _)))))))))

abbrev s_lcell : Stmt := top 18
abbrev N_lcell : List Str := ["_law_script", "_law_k"]
theorem sc_lcell : FnScope N_lcell ["_law_script", "_law_k"] (defScope s_lcell) := ⟨rfl, rfl, rfl, by decide +kernel, rfl, by decide +kernel, by decide +kernel⟩
theorem v_lcell_0 : LV s_lcell "_law_script" := by decide +kernel
theorem v_lcell_1 : LV s_lcell "_law_k" := by decide +kernel
theorem g_lcell_len : GV "_law_cell" s_lcell "len" := fun _ _ _ => rfl
theorem ok_lcell (F : Fun K "_law_cell" "_law_cell" s_lcell f fd) (B : Bn mg)     :
    FnOk P w K mg base (L2N.CX P w) 2 f fd ["_law_script", "_law_k"] (spF K mg 2 [] f_lcell) := by
  refine fn_ok F sc_lcell (by decide) (by decide) fun cdv A outer s H E hr => ?_
  have nd := sc_lcell.nd
  have tk : TkO (cxO P w K mg base N_lcell "_law_cell" s_lcell f cdv A outer s H E) E := L2N.takes_of rfl rfl rfl rfl
  have pn : PnO P w (cxO P w K mg base N_lcell "_law_cell" s_lcell f cdv A outer s H E) := passes_of rfl
  unfold m_lcell
  exact mss_cons (ms_if (mt_cmp op_lt os_lt (me_var (i := 1) rfl (.inl v_lcell_1)) (mb_len B.len (ma_cons (me_var (i := 0) rfl (.inl v_lcell_0)) (ma_nil)) (hg := (g_lcell_len _ _ _))) (nomark _)) (mss_one (ms_ret (me_ix (me_var (i := 0) rfl (.inl v_lcell_0)) (me_var (i := 1) rfl (.inl v_lcell_1))))) (mss_nil)) (mss_cons (ms_if (mt_cmp (op_eqM hr.units) os_eq (mb_len B.len (ma_cons (me_var (i := 0) rfl (.inl v_lcell_0)) (ma_nil)) (hg := (g_lcell_len _ _ _))) (me_int) (nomark _)) (mss_one (ms_ret (me_mul (me_int) (me_add (me_var (i := 1) rfl (.inl v_lcell_1)) (me_int))))) (mss_nil)) (mss_one (ms_ret (me_add (me_ix (me_var (i := 0) rfl (.inl v_lcell_0)) (me_mod (me_var (i := 1) rfl (.inl v_lcell_1)) (mb_len B.len (ma_cons (me_var (i := 0) rfl (.inl v_lcell_0)) (ma_nil)) (hg := (g_lcell_len _ _ _))))) (me_mul (me_int) (me_var (i := 1) rfl (.inl v_lcell_1)))))))

abbrev s_law142 : Stmt := top 29
abbrev N_law142 : List Str := ["_law_script", "_law_words", "_law_which", "_law_word", "_law_some", "_law_one", "_law_other", "_law_k"]
theorem sc_law142 : FnScope N_law142 ["_law_script"] (defScope s_law142) := ⟨rfl, rfl, rfl, by decide +kernel, rfl, by decide +kernel, by decide +kernel⟩
theorem v_law142_0 : (defScope s_law142).names.lookup ("_law_script" : Str) = some NameKind.cell := by decide +kernel
theorem v_law142_1 : LV s_law142 "_law_words" := by decide +kernel
theorem v_law142_2 : (defScope s_law142).names.lookup ("_law_which" : Str) = some NameKind.cell := by decide +kernel
theorem v_law142_3 : LV s_law142 "_law_word" := by decide +kernel
theorem v_law142_4 : LV s_law142 "_law_some" := by decide +kernel
theorem v_law142_5 : LV s_law142 "_law_one" := by decide +kernel
theorem v_law142_6 : LV s_law142 "_law_other" := by decide +kernel
theorem g_law142_enumerate : GV "law" s_law142 "enumerate" := fun _ _ _ => rfl
theorem g_law142_range : GV "law" s_law142 "range" := fun _ _ _ => rfl
theorem g_law142_law_met : GV "law" s_law142 "_law_met" := fun _ _ _ => rfl
theorem g_law142_law_right : GV "law" s_law142 "_law_right" := fun _ _ _ => rfl
theorem ok_law142 (F : Fun K "law" "law" s_law142 f fd) (B : Bn mg) (h_lthing : Fd P w K mg base "_law_thing" 6 ["_law_cell_here", "_law_salt"] [] f_lthing) (h_lcell : Fd P w K mg base "_law_cell" 2 ["_law_script", "_law_k"] [] f_lcell) (h_lmet : Fd P w K mg base "_law_met" 6 ["_law_which", "_law_first", "_law_second"] [] f_lmet) (h_lright11 : Fd P w K mg base "_law_right" 12 ["_law_e", "_law_which", "_law_word", "_law_first", "_law_second"] [] f_lright11)    :
    FnOk P w K mg base (L2N.CX P w) 14 f fd ["_law_script"] (spF K mg 1 [] f_law142) := by
  refine fn_ok F sc_law142 (by decide) (by decide) fun cdv A outer s H E hr => ?_
  have nd := sc_law142.nd
  have tk : TkO (cxO P w K mg base N_law142 "law" s_law142 f cdv A outer s H E) E := L2N.takes_of rfl rfl rfl rfl
  have pn : PnO P w (cxO P w K mg base N_law142 "law" s_law142 f cdv A outer s H E) := passes_of rfl
  unfold m_law142
  exact mss_cons (ms_set (i := 1) nd rfl (.inl v_law142_1) (me_str)) (mss_cons (ms_set (i := 1) nd rfl (.inl v_law142_1) (me_add (me_var (i := 1) rfl (.inl v_law142_1)) (me_str))) (mss_cons (ms_for pn rfl (mi_enum B.enumerate (ma_cons (me_sm ss_split PySem.F.slot_str_split PySem.F.type_str_split mt_split (me_var (i := 1) rfl (.inl v_law142_1)) (ma_cons (me_str) (ma_nil))) (ma_nil)) (hg := (g_law142_enumerate _ _ _))) (mg_tup rfl (mgs_cons (mg_name (i := 2) nd rfl (.inr v_law142_2)) (mgs_cons (mg_name (i := 3) nd rfl (.inl v_law142_3)) (mgs_nil)))) (mss_cons (ms_setLc (own := [("_law_k", 7)]) (g := .nm 7) (i := 4) rfl nd rfl v_law142_4 (sw_true rfl v_law142_4 rfl (by decide +kernel)) (mi_r1 B.range (ma_cons (me_int) (ma_nil)) (hg := (g_law142_range _ _ _))) (blkOk_at (N' := ["_law_script", "_law_words", "_law_which", "_law_word", "_law_some", "_law_one", "_law_other", "_law_k"]) (sc' := defScope s_law142) rfl rfl (by decide +kernel)) (fun _ _ _ _ _ => pg_name (i := 7) nd rfl (Or.inl rfl)) (fun _ _ _ _ _ => mts_nil) (fun _ _ _ _ _ => me_fz (mf_call0 h_lthing hr (by decide) (ma_cons (me_fz (mf_call0 h_lcell hr (by decide) (ma_cons (me_var (i := 0) rfl (by first | exact .inr (.inr rfl) | exact .inl rfl | exact .inr (.inl rfl))) (ma_cons (me_add (me_mul (me_int) (me_var (i := 2) rfl (by first | exact .inr (.inr rfl) | exact .inl rfl | exact .inr (.inl rfl)))) (me_var (i := 7) rfl (.inl rfl))) (ma_nil))) (lng_cons (lng_cons lng_nil)) (hg := rfl))) (ma_cons (me_add (me_int) (me_var (i := 7) rfl (.inl rfl))) (ma_nil))) (lng_cons (lng_cons lng_nil)) (hg := rfl))) (hbs := hbs_of rfl)) (mss_cons (ms_set (i := 5) nd rfl (.inl v_law142_5) (me_fz (mf_call h_lmet hr (by decide) tk (ma_cons (me_var (i := 2) rfl (.inr (.inl v_law142_2))) (ma_cons (me_ix (me_var (i := 4) rfl (.inl v_law142_4)) (me_int)) (ma_cons (me_ix (me_var (i := 4) rfl (.inl v_law142_4)) (me_int)) (ma_nil)))) (lng_cons (lng_cons (lng_cons lng_nil))) (hg := (g_law142_law_met _ _ _))))) (mss_cons (ms_set (i := 6) nd rfl (.inl v_law142_6) (me_fz (mf_call h_lmet hr (by decide) tk (ma_cons (me_var (i := 2) rfl (.inr (.inl v_law142_2))) (ma_cons (me_ix (me_var (i := 4) rfl (.inl v_law142_4)) (me_int)) (ma_cons (me_ix (me_var (i := 4) rfl (.inl v_law142_4)) (me_int)) (ma_nil)))) (lng_cons (lng_cons (lng_cons lng_nil))) (hg := (g_law142_law_met _ _ _))))) (mss_cons (ms_if (mt_not (mt_val (me_fz (mf_call h_lright11 hr (by decide) tk (ma_cons (me_var (i := 5) rfl (.inl v_law142_5)) (ma_cons (me_var (i := 2) rfl (.inr (.inl v_law142_2))) (ma_cons (me_var (i := 3) rfl (.inl v_law142_3)) (ma_cons (me_ix (me_var (i := 4) rfl (.inl v_law142_4)) (me_int)) (ma_cons (me_ix (me_var (i := 4) rfl (.inl v_law142_4)) (me_int)) (ma_nil)))))) (lng_cons (lng_cons (lng_cons (lng_cons (lng_cons lng_nil))))) (hg := (g_law142_law_right _ _ _)))))) (mss_one (ms_ret (me_bl))) (mss_nil)) (mss_one (ms_if (mt_not (mt_val (me_fz (mf_call h_lright11 hr (by decide) tk (ma_cons (me_var (i := 6) rfl (.inl v_law142_6)) (ma_cons (me_var (i := 2) rfl (.inr (.inl v_law142_2))) (ma_cons (me_var (i := 3) rfl (.inl v_law142_3)) (ma_cons (me_ix (me_var (i := 4) rfl (.inl v_law142_4)) (me_int)) (ma_cons (me_ix (me_var (i := 4) rfl (.inl v_law142_4)) (me_int)) (ma_nil)))))) (lng_cons (lng_cons (lng_cons (lng_cons (lng_cons lng_nil))))) (hg := (g_law142_law_right _ _ _)))))) (mss_one (ms_ret (me_bl))) (mss_nil)))))))) (mss_one (ms_ret (me_bl)))))

end
theorem all_mk {l : PySem.W.OpenLaw} {w : World} {K : PySem.W.Frag} {h : Heap} {mg : Str → Option Value} {fa f0 f1 f2 f3 f4 f5 f6 f7 f8 f9 f10 f11 : Addr} (X : K.In h) (G : h.Ns mainGlobals mg) (hfa : mg "law" = some (.ref fa))
    {od0 an0 od1 an1 od2 an2 od3 an3 od4 an4 od5 an5 od6 an6 od7 an7 od8 an8 od9 an9 od10 an10 od11 an11 : Option Addr} {sl0 sl1 sl2 sl3 sl4 sl5 sl6 sl7 sl8 sl9 sl10 sl11 : Array (Option Value)} {oc0 kV0 dc0 pm0 cd0 ct0 oc1 kV1 dc1 pm1 cd1 ct1 oc2 kV2 dc2 pm2 cd2 ct2 oc3 kV3 dc3 pm3 cd3 ct3 oc4 kV4 dc4 pm4 cd4 ct4 oc5 kV5 dc5 pm5 cd5 ct5 oc6 kV6 dc6 pm6 cd6 ct6 oc7 kV7 dc7 pm7 cd7 ct7 oc8 kV8 dc8 pm8 cd8 ct8 oc9 kV9 dc9 pm9 cd9 ct9 oc10 kV10 dc10 pm10 cd10 ct10 oc11 kV11 dc11 pm11 cd11 ct11 : Value}
    (a0 : PySem.W.nsIn K mainGlobals "_law_raised" = some (some (.ref f0))) (l0 : K.lookup f0 = some ⟨oc0, od0, .func (PySem.W.fnOf "_law_raised" "_law_raised" (defArgs s_lraised) (defBody s_lraised) (defScope s_lraised) .none kV0 dc0 pm0 an0 cd0 ct0), sl0⟩) (c0 : PySem.W.codeIn K cd0 "_law_raised" = true) (k0 : PySem.W.keepIn K (.ref f0) = true)
    (a1 : PySem.W.nsIn K mainGlobals "_law_raised_of_text" = some (some (.ref f1))) (l1 : K.lookup f1 = some ⟨oc1, od1, .func (PySem.W.fnOf "_law_raised_of_text" "_law_raised_of_text" (defArgs s_lraised_of_text) (defBody s_lraised_of_text) (defScope s_lraised_of_text) .none kV1 dc1 pm1 an1 cd1 ct1), sl1⟩) (c1 : PySem.W.codeIn K cd1 "_law_raised_of_text" = true) (k1 : PySem.W.keepIn K (.ref f1) = true)
    (a2 : PySem.W.nsIn K mainGlobals "_law_met" = some (some (.ref f2))) (l2 : K.lookup f2 = some ⟨oc2, od2, .func (PySem.W.fnOf "_law_met" "_law_met" (defArgs s_lmet) (defBody s_lmet) (defScope s_lmet) .none kV2 dc2 pm2 an2 cd2 ct2), sl2⟩) (c2 : PySem.W.codeIn K cd2 "_law_met" = true) (k2 : PySem.W.keepIn K (.ref f2) = true)
    (a3 : PySem.W.nsIn K mainGlobals "_law_mixed" = some (some (.ref f3))) (l3 : K.lookup f3 = some ⟨oc3, od3, .func (PySem.W.fnOf "_law_mixed" "_law_mixed" (defArgs s_lmixed) (defBody s_lmixed) (defScope s_lmixed) .none kV3 dc3 pm3 an3 cd3 ct3), sl3⟩) (c3 : PySem.W.codeIn K cd3 "_law_mixed" = true) (k3 : PySem.W.keepIn K (.ref f3) = true)
    (a4 : PySem.W.nsIn K mainGlobals "_law_draws" = some (some (.ref f4))) (l4 : K.lookup f4 = some ⟨oc4, od4, .func (PySem.W.fnOf "_law_draws" "_law_draws" (defArgs s_ldraws) (defBody s_ldraws) (defScope s_ldraws) .none kV4 dc4 pm4 an4 cd4 ct4), sl4⟩) (c4 : PySem.W.codeIn K cd4 "_law_draws" = true) (k4 : PySem.W.keepIn K (.ref f4) = true)
    (a5 : PySem.W.nsIn K mainGlobals "_law_thing" = some (some (.ref f5))) (l5 : K.lookup f5 = some ⟨oc5, od5, .func (PySem.W.fnOf "_law_thing" "_law_thing" (defArgs s_lthing) (defBody s_lthing) (defScope s_lthing) .none kV5 dc5 pm5 an5 cd5 ct5), sl5⟩) (c5 : PySem.W.codeIn K cd5 "_law_thing" = true) (k5 : PySem.W.keepIn K (.ref f5) = true)
    (a6 : PySem.W.nsIn K mainGlobals "_law_just" = some (some (.ref f6))) (l6 : K.lookup f6 = some ⟨oc6, od6, .func (PySem.W.fnOf "_law_just" "_law_just" (defArgs s_ljust) (defBody s_ljust) (defScope s_ljust) .none kV6 dc6 pm6 an6 cd6 ct6), sl6⟩) (c6 : PySem.W.codeIn K cd6 "_law_just" = true) (k6 : PySem.W.keepIn K (.ref f6) = true)
    (a7 : PySem.W.nsIn K mainGlobals "_law_sorts" = some (some (.ref f7))) (l7 : K.lookup f7 = some ⟨oc7, od7, .func (PySem.W.fnOf "_law_sorts" "_law_sorts" (defArgs s_lsorts2) (defBody s_lsorts2) (defScope s_lsorts2) .none kV7 dc7 pm7 an7 cd7 ct7), sl7⟩) (c7 : PySem.W.codeIn K cd7 "_law_sorts" = true) (k7 : PySem.W.keepIn K (.ref f7) = true)
    (a8 : PySem.W.nsIn K mainGlobals "_law_fields" = some (some (.ref f8))) (l8 : K.lookup f8 = some ⟨oc8, od8, .func (PySem.W.fnOf "_law_fields" "_law_fields" (defArgs s_lfields2) (defBody s_lfields2) (defScope s_lfields2) .none kV8 dc8 pm8 an8 cd8 ct8), sl8⟩) (c8 : PySem.W.codeIn K cd8 "_law_fields" = true) (k8 : PySem.W.keepIn K (.ref f8) = true)
    (a9 : PySem.W.nsIn K mainGlobals "_law_right" = some (some (.ref f9))) (l9 : K.lookup f9 = some ⟨oc9, od9, .func (PySem.W.fnOf "_law_right" "_law_right" (defArgs s_lright11) (defBody s_lright11) (defScope s_lright11) .none kV9 dc9 pm9 an9 cd9 ct9), sl9⟩) (c9 : PySem.W.codeIn K cd9 "_law_right" = true) (k9 : PySem.W.keepIn K (.ref f9) = true)
    (a10 : PySem.W.nsIn K mainGlobals "_law_cell" = some (some (.ref f10))) (l10 : K.lookup f10 = some ⟨oc10, od10, .func (PySem.W.fnOf "_law_cell" "_law_cell" (defArgs s_lcell) (defBody s_lcell) (defScope s_lcell) .none kV10 dc10 pm10 an10 cd10 ct10), sl10⟩) (c10 : PySem.W.codeIn K cd10 "_law_cell" = true) (k10 : PySem.W.keepIn K (.ref f10) = true)
    (a11 : PySem.W.nsIn K mainGlobals "law" = some (some (.ref f11))) (l11 : K.lookup f11 = some ⟨oc11, od11, .func (PySem.W.fnOf "law" "law" (defArgs s_law142) (defBody s_law142) (defScope s_law142) .none kV11 dc11 pm11 an11 cd11 ct11), sl11⟩) (c11 : PySem.W.codeIn K cd11 "law" = true) (k11 : PySem.W.keepIn K (.ref f11) = true)
    (z_len : PySem.W.nsIn K mainGlobals "len" = some none)
    (z_range : PySem.W.nsIn K mainGlobals "range" = some none)
    (z_abs : PySem.W.nsIn K mainGlobals "abs" = some none)
    (z_max : PySem.W.nsIn K mainGlobals "max" = some none)
    (z_min : PySem.W.nsIn K mainGlobals "min" = some none)
    (z_int : PySem.W.nsIn K mainGlobals "int" = some none)
    (z_str : PySem.W.nsIn K mainGlobals "str" = some none)
    (z_tuple : PySem.W.nsIn K mainGlobals "tuple" = some none)
    (z_list : PySem.W.nsIn K mainGlobals "list" = some none)
    (z_all : PySem.W.nsIn K mainGlobals "all" = some none)
    (z_any : PySem.W.nsIn K mainGlobals "any" = some none)
    (z_isinstance : PySem.W.nsIn K mainGlobals "isinstance" = some none)
    (z_divmod : PySem.W.nsIn K mainGlobals "divmod" = some none)
    (z_sum : PySem.W.nsIn K mainGlobals "sum" = some none)
    (z_zip : PySem.W.nsIn K mainGlobals "zip" = some none)
    (z_enumerate : PySem.W.nsIn K mainGlobals "enumerate" = some none)
    (z_reversed : PySem.W.nsIn K mainGlobals "reversed" = some none)
    (z_sorted : PySem.W.nsIn K mainGlobals "sorted" = some none)
    (z_dict : PySem.W.nsIn K mainGlobals "dict" = some none)
    (z_set : PySem.W.nsIn K mainGlobals "set" = some none)
    (z_bool : PySem.W.nsIn K mainGlobals "bool" = some none)
    {c_BadLine : Addr} (n_BadLine : PySem.W.nsIn K mainGlobals "BadLine" = some (some (.ref c_BadLine)))
    {c_LoftError : Addr} (n_LoftError : PySem.W.nsIn K mainGlobals "LoftError" = some (some (.ref c_LoftError)))
    {c_NoDeed : Addr} (n_NoDeed : PySem.W.nsIn K mainGlobals "NoDeed" = some (some (.ref c_NoDeed)))
    {c_NoFit : Addr} (n_NoFit : PySem.W.nsIn K mainGlobals "NoFit" = some (some (.ref c_NoFit)))
    {c_NoLine : Addr} (n_NoLine : PySem.W.nsIn K mainGlobals "NoLine" = some (some (.ref c_NoLine)))
    {c_NoName : Addr} (n_NoName : PySem.W.nsIn K mainGlobals "NoName" = some (some (.ref c_NoName)))
    {c_NoRow : Addr} (n_NoRow : PySem.W.nsIn K mainGlobals "NoRow" = some (some (.ref c_NoRow)))
    {c_NoRule : Addr} (n_NoRule : PySem.W.nsIn K mainGlobals "NoRule" = some (some (.ref c_NoRule)))
    {c_NoShape : Addr} (n_NoShape : PySem.W.nsIn K mainGlobals "NoShape" = some (some (.ref c_NoShape)))
    {c_NoTable : Addr} (n_NoTable : PySem.W.nsIn K mainGlobals "NoTable" = some (some (.ref c_NoTable)))
    {c_NoText : Addr} (n_NoText : PySem.W.nsIn K mainGlobals "NoText" = some (some (.ref c_NoText)))
    {c_NothingDone : Addr} (n_NothingDone : PySem.W.nsIn K mainGlobals "NothingDone" = some (some (.ref c_NothingDone)))
    {c_Nought : Addr} (n_Nought : PySem.W.nsIn K mainGlobals "Nought" = some (some (.ref c_Nought)))
    {c_TooLong : Addr} (n_TooLong : PySem.W.nsIn K mainGlobals "TooLong" = some (some (.ref c_TooLong)))
    {c_Unlike : Addr} (n_Unlike : PySem.W.nsIn K mainGlobals "Unlike" = some (some (.ref c_Unlike)))
    {c_Wrong : Addr} (n_Wrong : PySem.W.nsIn K mainGlobals "Wrong" = some (some (.ref c_Wrong)))
    (b1_LoftError : PySem.W.readsIn K c_LoftError (.type "type") = true)
    (b2_LoftError : PySem.W.specialIn K (.ref c_LoftError) "__getattribute__" = some (some (.builtin "type.__getattribute__")))
    (b3_LoftError : PySem.W.findCls K (.ref c_LoftError) (.type "type") "__init__" = some (.val (.builtin "ValueError.__init__")))
    {nm_BadLine q_BadLine : Str} {N_BadLine i_BadLine : Addr} {bs_BadLine : List Value} {sn_BadLine : List Str} {sub_BadLine : List Value} {ab_BadLine : Bool} {col_BadLine : Option Bool} {dd_BadLine : Option Addr} {k0_BadLine k1_BadLine k2_BadLine k3_BadLine k5_BadLine : Option Value}
    (l_BadLine : K.lookup c_BadLine = some (excClassObj nm_BadLine q_BadLine c_BadLine N_BadLine bs_BadLine [.ref c_LoftError, .type "ValueError", .type "Exception", .type "BaseException", .type "object"] true sn_BadLine sub_BadLine ab_BadLine col_BadLine dd_BadLine k0_BadLine k1_BadLine k2_BadLine k3_BadLine k5_BadLine "ValueError.__new__"))
    (s_BadLine : PySem.W.findIn K (.ref c_BadLine) "__setattr__" = some (some (.builtin "object.__setattr__")))
    (e_BadLine : PySem.W.subIn K (.ref c_BadLine) (.type "BaseException") = some true)
    (t_BadLine : PySem.W.typeIn K (.ref c_BadLine) = some (.type "type"))
    (p_BadLine : PySem.W.keepIn K (.ref c_BadLine) = true)
    (i_BadLine_ : PySem.W.findIn K (.ref c_BadLine) "__init__" = some (some (.ref i_BadLine)))
    (j_BadLine : PySem.W.typeIn K (.ref i_BadLine) = some (.type "function"))
    (f_BadLine_at : PySem.W.findIn K (.ref c_BadLine) "at" = some none)
    {io_BadLine ik_BadLine id_BadLine ip_BadLine ic_BadLine it_BadLine : Value} {iod_BadLine ia_BadLine : Option Addr} {is_BadLine : Array (Option Value)}
    (g_BadLine : K.lookup i_BadLine = some ⟨io_BadLine, iod_BadLine, .func (PySem.W.fnOf "__init__" "BadLine.__init__" (defArgs s_ini_BadLine) (defBody s_ini_BadLine) (defScope s_ini_BadLine) .none ik_BadLine id_BadLine ip_BadLine ia_BadLine ic_BadLine it_BadLine), is_BadLine⟩)
    (h_BadLine_ : PySem.W.codeIn K ic_BadLine "BadLine.__init__" = true)
    (m_BadLine_ : PySem.W.keepIn K (.ref i_BadLine) = true)
    {nm_NoDeed q_NoDeed : Str} {N_NoDeed i_NoDeed : Addr} {bs_NoDeed : List Value} {sn_NoDeed : List Str} {sub_NoDeed : List Value} {ab_NoDeed : Bool} {col_NoDeed : Option Bool} {dd_NoDeed : Option Addr} {k0_NoDeed k1_NoDeed k2_NoDeed k3_NoDeed k5_NoDeed : Option Value}
    (l_NoDeed : K.lookup c_NoDeed = some (excClassObj nm_NoDeed q_NoDeed c_NoDeed N_NoDeed bs_NoDeed [.ref c_LoftError, .type "ValueError", .type "Exception", .type "BaseException", .type "object"] true sn_NoDeed sub_NoDeed ab_NoDeed col_NoDeed dd_NoDeed k0_NoDeed k1_NoDeed k2_NoDeed k3_NoDeed k5_NoDeed "ValueError.__new__"))
    (s_NoDeed : PySem.W.findIn K (.ref c_NoDeed) "__setattr__" = some (some (.builtin "object.__setattr__")))
    (e_NoDeed : PySem.W.subIn K (.ref c_NoDeed) (.type "BaseException") = some true)
    (t_NoDeed : PySem.W.typeIn K (.ref c_NoDeed) = some (.type "type"))
    (p_NoDeed : PySem.W.keepIn K (.ref c_NoDeed) = true)
    (i_NoDeed_ : PySem.W.findIn K (.ref c_NoDeed) "__init__" = some (some (.ref i_NoDeed)))
    (j_NoDeed : PySem.W.typeIn K (.ref i_NoDeed) = some (.type "function"))
    (f_NoDeed_deed : PySem.W.findIn K (.ref c_NoDeed) "deed" = some none)
    {io_NoDeed ik_NoDeed id_NoDeed ip_NoDeed ic_NoDeed it_NoDeed : Value} {iod_NoDeed ia_NoDeed : Option Addr} {is_NoDeed : Array (Option Value)}
    (g_NoDeed : K.lookup i_NoDeed = some ⟨io_NoDeed, iod_NoDeed, .func (PySem.W.fnOf "__init__" "NoDeed.__init__" (defArgs s_ini_NoDeed) (defBody s_ini_NoDeed) (defScope s_ini_NoDeed) .none ik_NoDeed id_NoDeed ip_NoDeed ia_NoDeed ic_NoDeed it_NoDeed), is_NoDeed⟩)
    (h_NoDeed_ : PySem.W.codeIn K ic_NoDeed "NoDeed.__init__" = true)
    (m_NoDeed_ : PySem.W.keepIn K (.ref i_NoDeed) = true)
    {nm_NoFit q_NoFit : Str} {N_NoFit i_NoFit : Addr} {bs_NoFit : List Value} {sn_NoFit : List Str} {sub_NoFit : List Value} {ab_NoFit : Bool} {col_NoFit : Option Bool} {dd_NoFit : Option Addr} {k0_NoFit k1_NoFit k2_NoFit k3_NoFit k5_NoFit : Option Value}
    (l_NoFit : K.lookup c_NoFit = some (excClassObj nm_NoFit q_NoFit c_NoFit N_NoFit bs_NoFit [.ref c_LoftError, .type "ValueError", .type "Exception", .type "BaseException", .type "object"] true sn_NoFit sub_NoFit ab_NoFit col_NoFit dd_NoFit k0_NoFit k1_NoFit k2_NoFit k3_NoFit k5_NoFit "ValueError.__new__"))
    (s_NoFit : PySem.W.findIn K (.ref c_NoFit) "__setattr__" = some (some (.builtin "object.__setattr__")))
    (e_NoFit : PySem.W.subIn K (.ref c_NoFit) (.type "BaseException") = some true)
    (t_NoFit : PySem.W.typeIn K (.ref c_NoFit) = some (.type "type"))
    (p_NoFit : PySem.W.keepIn K (.ref c_NoFit) = true)
    (i_NoFit_ : PySem.W.findIn K (.ref c_NoFit) "__init__" = some (some (.ref i_NoFit)))
    (j_NoFit : PySem.W.typeIn K (.ref i_NoFit) = some (.type "function"))
    (f_NoFit_number : PySem.W.findIn K (.ref c_NoFit) "number" = some none)
    {io_NoFit ik_NoFit id_NoFit ip_NoFit ic_NoFit it_NoFit : Value} {iod_NoFit ia_NoFit : Option Addr} {is_NoFit : Array (Option Value)}
    (g_NoFit : K.lookup i_NoFit = some ⟨io_NoFit, iod_NoFit, .func (PySem.W.fnOf "__init__" "NoFit.__init__" (defArgs s_ini_NoFit) (defBody s_ini_NoFit) (defScope s_ini_NoFit) .none ik_NoFit id_NoFit ip_NoFit ia_NoFit ic_NoFit it_NoFit), is_NoFit⟩)
    (h_NoFit_ : PySem.W.codeIn K ic_NoFit "NoFit.__init__" = true)
    (m_NoFit_ : PySem.W.keepIn K (.ref i_NoFit) = true)
    {nm_NoName q_NoName : Str} {N_NoName i_NoName : Addr} {bs_NoName : List Value} {sn_NoName : List Str} {sub_NoName : List Value} {ab_NoName : Bool} {col_NoName : Option Bool} {dd_NoName : Option Addr} {k0_NoName k1_NoName k2_NoName k3_NoName k5_NoName : Option Value}
    (l_NoName : K.lookup c_NoName = some (excClassObj nm_NoName q_NoName c_NoName N_NoName bs_NoName [.ref c_LoftError, .type "ValueError", .type "Exception", .type "BaseException", .type "object"] true sn_NoName sub_NoName ab_NoName col_NoName dd_NoName k0_NoName k1_NoName k2_NoName k3_NoName k5_NoName "ValueError.__new__"))
    (s_NoName : PySem.W.findIn K (.ref c_NoName) "__setattr__" = some (some (.builtin "object.__setattr__")))
    (e_NoName : PySem.W.subIn K (.ref c_NoName) (.type "BaseException") = some true)
    (t_NoName : PySem.W.typeIn K (.ref c_NoName) = some (.type "type"))
    (p_NoName : PySem.W.keepIn K (.ref c_NoName) = true)
    (i_NoName_ : PySem.W.findIn K (.ref c_NoName) "__init__" = some (some (.ref i_NoName)))
    (j_NoName : PySem.W.typeIn K (.ref i_NoName) = some (.type "function"))
    (f_NoName_name : PySem.W.findIn K (.ref c_NoName) "name" = some none)
    {io_NoName ik_NoName id_NoName ip_NoName ic_NoName it_NoName : Value} {iod_NoName ia_NoName : Option Addr} {is_NoName : Array (Option Value)}
    (g_NoName : K.lookup i_NoName = some ⟨io_NoName, iod_NoName, .func (PySem.W.fnOf "__init__" "NoName.__init__" (defArgs s_ini_NoName) (defBody s_ini_NoName) (defScope s_ini_NoName) .none ik_NoName id_NoName ip_NoName ia_NoName ic_NoName it_NoName), is_NoName⟩)
    (h_NoName_ : PySem.W.codeIn K ic_NoName "NoName.__init__" = true)
    (m_NoName_ : PySem.W.keepIn K (.ref i_NoName) = true)
    {nm_NoRow q_NoRow : Str} {N_NoRow i_NoRow : Addr} {bs_NoRow : List Value} {sn_NoRow : List Str} {sub_NoRow : List Value} {ab_NoRow : Bool} {col_NoRow : Option Bool} {dd_NoRow : Option Addr} {k0_NoRow k1_NoRow k2_NoRow k3_NoRow k5_NoRow : Option Value}
    (l_NoRow : K.lookup c_NoRow = some (excClassObj nm_NoRow q_NoRow c_NoRow N_NoRow bs_NoRow [.ref c_LoftError, .type "ValueError", .type "Exception", .type "BaseException", .type "object"] true sn_NoRow sub_NoRow ab_NoRow col_NoRow dd_NoRow k0_NoRow k1_NoRow k2_NoRow k3_NoRow k5_NoRow "ValueError.__new__"))
    (s_NoRow : PySem.W.findIn K (.ref c_NoRow) "__setattr__" = some (some (.builtin "object.__setattr__")))
    (e_NoRow : PySem.W.subIn K (.ref c_NoRow) (.type "BaseException") = some true)
    (t_NoRow : PySem.W.typeIn K (.ref c_NoRow) = some (.type "type"))
    (p_NoRow : PySem.W.keepIn K (.ref c_NoRow) = true)
    (i_NoRow_ : PySem.W.findIn K (.ref c_NoRow) "__init__" = some (some (.ref i_NoRow)))
    (j_NoRow : PySem.W.typeIn K (.ref i_NoRow) = some (.type "function"))
    (f_NoRow_at : PySem.W.findIn K (.ref c_NoRow) "at" = some none)
    {io_NoRow ik_NoRow id_NoRow ip_NoRow ic_NoRow it_NoRow : Value} {iod_NoRow ia_NoRow : Option Addr} {is_NoRow : Array (Option Value)}
    (g_NoRow : K.lookup i_NoRow = some ⟨io_NoRow, iod_NoRow, .func (PySem.W.fnOf "__init__" "NoRow.__init__" (defArgs s_ini_NoRow) (defBody s_ini_NoRow) (defScope s_ini_NoRow) .none ik_NoRow id_NoRow ip_NoRow ia_NoRow ic_NoRow it_NoRow), is_NoRow⟩)
    (h_NoRow_ : PySem.W.codeIn K ic_NoRow "NoRow.__init__" = true)
    (m_NoRow_ : PySem.W.keepIn K (.ref i_NoRow) = true)
    {nm_NoRule q_NoRule : Str} {N_NoRule i_NoRule : Addr} {bs_NoRule : List Value} {sn_NoRule : List Str} {sub_NoRule : List Value} {ab_NoRule : Bool} {col_NoRule : Option Bool} {dd_NoRule : Option Addr} {k0_NoRule k1_NoRule k2_NoRule k3_NoRule k5_NoRule : Option Value}
    (l_NoRule : K.lookup c_NoRule = some (excClassObj nm_NoRule q_NoRule c_NoRule N_NoRule bs_NoRule [.ref c_LoftError, .type "ValueError", .type "Exception", .type "BaseException", .type "object"] true sn_NoRule sub_NoRule ab_NoRule col_NoRule dd_NoRule k0_NoRule k1_NoRule k2_NoRule k3_NoRule k5_NoRule "ValueError.__new__"))
    (s_NoRule : PySem.W.findIn K (.ref c_NoRule) "__setattr__" = some (some (.builtin "object.__setattr__")))
    (e_NoRule : PySem.W.subIn K (.ref c_NoRule) (.type "BaseException") = some true)
    (t_NoRule : PySem.W.typeIn K (.ref c_NoRule) = some (.type "type"))
    (p_NoRule : PySem.W.keepIn K (.ref c_NoRule) = true)
    (i_NoRule_ : PySem.W.findIn K (.ref c_NoRule) "__init__" = some (some (.ref i_NoRule)))
    (j_NoRule : PySem.W.typeIn K (.ref i_NoRule) = some (.type "function"))
    (f_NoRule_rule : PySem.W.findIn K (.ref c_NoRule) "rule" = some none)
    {io_NoRule ik_NoRule id_NoRule ip_NoRule ic_NoRule it_NoRule : Value} {iod_NoRule ia_NoRule : Option Addr} {is_NoRule : Array (Option Value)}
    (g_NoRule : K.lookup i_NoRule = some ⟨io_NoRule, iod_NoRule, .func (PySem.W.fnOf "__init__" "NoRule.__init__" (defArgs s_ini_NoRule) (defBody s_ini_NoRule) (defScope s_ini_NoRule) .none ik_NoRule id_NoRule ip_NoRule ia_NoRule ic_NoRule it_NoRule), is_NoRule⟩)
    (h_NoRule_ : PySem.W.codeIn K ic_NoRule "NoRule.__init__" = true)
    (m_NoRule_ : PySem.W.keepIn K (.ref i_NoRule) = true)
    {nm_NoShape q_NoShape : Str} {N_NoShape i_NoShape : Addr} {bs_NoShape : List Value} {sn_NoShape : List Str} {sub_NoShape : List Value} {ab_NoShape : Bool} {col_NoShape : Option Bool} {dd_NoShape : Option Addr} {k0_NoShape k1_NoShape k2_NoShape k3_NoShape k5_NoShape : Option Value}
    (l_NoShape : K.lookup c_NoShape = some (excClassObj nm_NoShape q_NoShape c_NoShape N_NoShape bs_NoShape [.ref c_LoftError, .type "ValueError", .type "Exception", .type "BaseException", .type "object"] true sn_NoShape sub_NoShape ab_NoShape col_NoShape dd_NoShape k0_NoShape k1_NoShape k2_NoShape k3_NoShape k5_NoShape "ValueError.__new__"))
    (s_NoShape : PySem.W.findIn K (.ref c_NoShape) "__setattr__" = some (some (.builtin "object.__setattr__")))
    (e_NoShape : PySem.W.subIn K (.ref c_NoShape) (.type "BaseException") = some true)
    (t_NoShape : PySem.W.typeIn K (.ref c_NoShape) = some (.type "type"))
    (p_NoShape : PySem.W.keepIn K (.ref c_NoShape) = true)
    (i_NoShape_ : PySem.W.findIn K (.ref c_NoShape) "__init__" = some (some (.ref i_NoShape)))
    (j_NoShape : PySem.W.typeIn K (.ref i_NoShape) = some (.type "function"))
    (f_NoShape_part : PySem.W.findIn K (.ref c_NoShape) "part" = some none)
    {io_NoShape ik_NoShape id_NoShape ip_NoShape ic_NoShape it_NoShape : Value} {iod_NoShape ia_NoShape : Option Addr} {is_NoShape : Array (Option Value)}
    (g_NoShape : K.lookup i_NoShape = some ⟨io_NoShape, iod_NoShape, .func (PySem.W.fnOf "__init__" "NoShape.__init__" (defArgs s_ini_NoShape) (defBody s_ini_NoShape) (defScope s_ini_NoShape) .none ik_NoShape id_NoShape ip_NoShape ia_NoShape ic_NoShape it_NoShape), is_NoShape⟩)
    (h_NoShape_ : PySem.W.codeIn K ic_NoShape "NoShape.__init__" = true)
    (m_NoShape_ : PySem.W.keepIn K (.ref i_NoShape) = true)
    {nm_NoTable q_NoTable : Str} {N_NoTable i_NoTable : Addr} {bs_NoTable : List Value} {sn_NoTable : List Str} {sub_NoTable : List Value} {ab_NoTable : Bool} {col_NoTable : Option Bool} {dd_NoTable : Option Addr} {k0_NoTable k1_NoTable k2_NoTable k3_NoTable k5_NoTable : Option Value}
    (l_NoTable : K.lookup c_NoTable = some (excClassObj nm_NoTable q_NoTable c_NoTable N_NoTable bs_NoTable [.ref c_LoftError, .type "ValueError", .type "Exception", .type "BaseException", .type "object"] true sn_NoTable sub_NoTable ab_NoTable col_NoTable dd_NoTable k0_NoTable k1_NoTable k2_NoTable k3_NoTable k5_NoTable "ValueError.__new__"))
    (s_NoTable : PySem.W.findIn K (.ref c_NoTable) "__setattr__" = some (some (.builtin "object.__setattr__")))
    (e_NoTable : PySem.W.subIn K (.ref c_NoTable) (.type "BaseException") = some true)
    (t_NoTable : PySem.W.typeIn K (.ref c_NoTable) = some (.type "type"))
    (p_NoTable : PySem.W.keepIn K (.ref c_NoTable) = true)
    (i_NoTable_ : PySem.W.findIn K (.ref c_NoTable) "__init__" = some (some (.ref i_NoTable)))
    (j_NoTable : PySem.W.typeIn K (.ref i_NoTable) = some (.type "function"))
    (f_NoTable_at : PySem.W.findIn K (.ref c_NoTable) "at" = some none)
    {io_NoTable ik_NoTable id_NoTable ip_NoTable ic_NoTable it_NoTable : Value} {iod_NoTable ia_NoTable : Option Addr} {is_NoTable : Array (Option Value)}
    (g_NoTable : K.lookup i_NoTable = some ⟨io_NoTable, iod_NoTable, .func (PySem.W.fnOf "__init__" "NoTable.__init__" (defArgs s_ini_NoTable) (defBody s_ini_NoTable) (defScope s_ini_NoTable) .none ik_NoTable id_NoTable ip_NoTable ia_NoTable ic_NoTable it_NoTable), is_NoTable⟩)
    (h_NoTable_ : PySem.W.codeIn K ic_NoTable "NoTable.__init__" = true)
    (m_NoTable_ : PySem.W.keepIn K (.ref i_NoTable) = true)
    {nm_TooLong q_TooLong : Str} {N_TooLong i_TooLong : Addr} {bs_TooLong : List Value} {sn_TooLong : List Str} {sub_TooLong : List Value} {ab_TooLong : Bool} {col_TooLong : Option Bool} {dd_TooLong : Option Addr} {k0_TooLong k1_TooLong k2_TooLong k3_TooLong k5_TooLong : Option Value}
    (l_TooLong : K.lookup c_TooLong = some (excClassObj nm_TooLong q_TooLong c_TooLong N_TooLong bs_TooLong [.ref c_LoftError, .type "ValueError", .type "Exception", .type "BaseException", .type "object"] true sn_TooLong sub_TooLong ab_TooLong col_TooLong dd_TooLong k0_TooLong k1_TooLong k2_TooLong k3_TooLong k5_TooLong "ValueError.__new__"))
    (s_TooLong : PySem.W.findIn K (.ref c_TooLong) "__setattr__" = some (some (.builtin "object.__setattr__")))
    (e_TooLong : PySem.W.subIn K (.ref c_TooLong) (.type "BaseException") = some true)
    (t_TooLong : PySem.W.typeIn K (.ref c_TooLong) = some (.type "type"))
    (p_TooLong : PySem.W.keepIn K (.ref c_TooLong) = true)
    (i_TooLong_ : PySem.W.findIn K (.ref c_TooLong) "__init__" = some (some (.ref i_TooLong)))
    (j_TooLong : PySem.W.typeIn K (.ref i_TooLong) = some (.type "function"))
    (f_TooLong_number : PySem.W.findIn K (.ref c_TooLong) "number" = some none)
    {io_TooLong ik_TooLong id_TooLong ip_TooLong ic_TooLong it_TooLong : Value} {iod_TooLong ia_TooLong : Option Addr} {is_TooLong : Array (Option Value)}
    (g_TooLong : K.lookup i_TooLong = some ⟨io_TooLong, iod_TooLong, .func (PySem.W.fnOf "__init__" "TooLong.__init__" (defArgs s_ini_TooLong) (defBody s_ini_TooLong) (defScope s_ini_TooLong) .none ik_TooLong id_TooLong ip_TooLong ia_TooLong ic_TooLong it_TooLong), is_TooLong⟩)
    (h_TooLong_ : PySem.W.codeIn K ic_TooLong "TooLong.__init__" = true)
    (m_TooLong_ : PySem.W.keepIn K (.ref i_TooLong) = true)
    {nm_Wrong q_Wrong : Str} {N_Wrong i_Wrong : Addr} {bs_Wrong : List Value} {sn_Wrong : List Str} {sub_Wrong : List Value} {ab_Wrong : Bool} {col_Wrong : Option Bool} {dd_Wrong : Option Addr} {k0_Wrong k1_Wrong k2_Wrong k3_Wrong k5_Wrong : Option Value}
    (l_Wrong : K.lookup c_Wrong = some (excClassObj nm_Wrong q_Wrong c_Wrong N_Wrong bs_Wrong [.ref c_LoftError, .type "ValueError", .type "Exception", .type "BaseException", .type "object"] true sn_Wrong sub_Wrong ab_Wrong col_Wrong dd_Wrong k0_Wrong k1_Wrong k2_Wrong k3_Wrong k5_Wrong "ValueError.__new__"))
    (s_Wrong : PySem.W.findIn K (.ref c_Wrong) "__setattr__" = some (some (.builtin "object.__setattr__")))
    (e_Wrong : PySem.W.subIn K (.ref c_Wrong) (.type "BaseException") = some true)
    (t_Wrong : PySem.W.typeIn K (.ref c_Wrong) = some (.type "type"))
    (p_Wrong : PySem.W.keepIn K (.ref c_Wrong) = true)
    (i_Wrong_ : PySem.W.findIn K (.ref c_Wrong) "__init__" = some (some (.ref i_Wrong)))
    (j_Wrong : PySem.W.typeIn K (.ref i_Wrong) = some (.type "function"))
    (f_Wrong_place : PySem.W.findIn K (.ref c_Wrong) "place" = some none)
    (f_Wrong_why : PySem.W.findIn K (.ref c_Wrong) "why" = some none)
    {io_Wrong ik_Wrong id_Wrong ip_Wrong ic_Wrong it_Wrong : Value} {iod_Wrong ia_Wrong : Option Addr} {is_Wrong : Array (Option Value)}
    (g_Wrong : K.lookup i_Wrong = some ⟨io_Wrong, iod_Wrong, .func (PySem.W.fnOf "__init__" "Wrong.__init__" (defArgs s_ini_Wrong) (defBody s_ini_Wrong) (defScope s_ini_Wrong) .none ik_Wrong id_Wrong ip_Wrong ia_Wrong ic_Wrong it_Wrong), is_Wrong⟩)
    (h_Wrong_ : PySem.W.codeIn K ic_Wrong "Wrong.__init__" = true)
    (m_Wrong_ : PySem.W.keepIn K (.ref i_Wrong) = true)
    (yxcl0_NoText1 : PySem.W.excIn K c_NoText [.type "ValueError", .type "Exception", .type "BaseException", .type "object"] "ValueError.__new__" = true)
    (yxcl0_NoText2 : PySem.W.keepIn K (.ref c_NoText) = true)
    (yxcl0_NoText3 : PySem.W.subIn K (.ref c_NoText) (.type "BaseException") = some true)
    (yxcl0_NoText4 : PySem.W.typeIn K (.ref c_NoText) = some (.type "type"))
    (yxcl0_Nought1 : PySem.W.excIn K c_Nought [.type "ValueError", .type "Exception", .type "BaseException", .type "object"] "ValueError.__new__" = true)
    (yxcl0_Nought2 : PySem.W.keepIn K (.ref c_Nought) = true)
    (yxcl0_Nought3 : PySem.W.subIn K (.ref c_Nought) (.type "BaseException") = some true)
    (yxcl0_Nought4 : PySem.W.typeIn K (.ref c_Nought) = some (.type "type"))
    (yxcl0_Unlike1 : PySem.W.excIn K c_Unlike [.type "ValueError", .type "Exception", .type "BaseException", .type "object"] "ValueError.__new__" = true)
    (yxcl0_Unlike2 : PySem.W.keepIn K (.ref c_Unlike) = true)
    (yxcl0_Unlike3 : PySem.W.subIn K (.ref c_Unlike) (.type "BaseException") = some true)
    (yxcl0_Unlike4 : PySem.W.typeIn K (.ref c_Unlike) = some (.type "type"))
    (yxcl0_NoLine1 : PySem.W.excIn K c_NoLine [.type "ValueError", .type "Exception", .type "BaseException", .type "object"] "ValueError.__new__" = true)
    (yxcl0_NoLine2 : PySem.W.keepIn K (.ref c_NoLine) = true)
    (yxcl0_NoLine3 : PySem.W.subIn K (.ref c_NoLine) (.type "BaseException") = some true)
    (yxcl0_NoLine4 : PySem.W.typeIn K (.ref c_NoLine) = some (.type "type"))
    (yxcl0_NothingDone1 : PySem.W.excIn K c_NothingDone [.type "ValueError", .type "Exception", .type "BaseException", .type "object"] "ValueError.__new__" = true)
    (yxcl0_NothingDone2 : PySem.W.keepIn K (.ref c_NothingDone) = true)
    (yxcl0_NothingDone3 : PySem.W.subIn K (.ref c_NothingDone) (.type "BaseException") = some true)
    (yxcl0_NothingDone4 : PySem.W.typeIn K (.ref c_NothingDone) = some (.type "type"))
    (yxext_LoftError_Wrong_True : PySem.W.exmOne K (.ref c_Wrong) (.ref c_LoftError) = some true)
    (yxext_LoftError_Unlike_True : PySem.W.exmOne K (.ref c_Unlike) (.ref c_LoftError) = some true)
    (yxext_LoftError_TooLong_True : PySem.W.exmOne K (.ref c_TooLong) (.ref c_LoftError) = some true)
    (yxext_LoftError_Nought_True : PySem.W.exmOne K (.ref c_Nought) (.ref c_LoftError) = some true)
    (yxext_LoftError_NothingDone_True : PySem.W.exmOne K (.ref c_NothingDone) (.ref c_LoftError) = some true)
    (yxext_LoftError_NoText_True : PySem.W.exmOne K (.ref c_NoText) (.ref c_LoftError) = some true)
    (yxext_LoftError_NoTable_True : PySem.W.exmOne K (.ref c_NoTable) (.ref c_LoftError) = some true)
    (yxext_LoftError_NoShape_True : PySem.W.exmOne K (.ref c_NoShape) (.ref c_LoftError) = some true)
    (yxext_LoftError_NoRule_True : PySem.W.exmOne K (.ref c_NoRule) (.ref c_LoftError) = some true)
    (yxext_LoftError_NoRow_True : PySem.W.exmOne K (.ref c_NoRow) (.ref c_LoftError) = some true)
    (yxext_LoftError_NoName_True : PySem.W.exmOne K (.ref c_NoName) (.ref c_LoftError) = some true)
    (yxext_LoftError_NoLine_True : PySem.W.exmOne K (.ref c_NoLine) (.ref c_LoftError) = some true)
    (yxext_LoftError_NoFit_True : PySem.W.exmOne K (.ref c_NoFit) (.ref c_LoftError) = some true)
    (yxext_LoftError_NoDeed_True : PySem.W.exmOne K (.ref c_NoDeed) (.ref c_LoftError) = some true)
    (yxext_LoftError_BadLine_True : PySem.W.exmOne K (.ref c_BadLine) (.ref c_LoftError) = some true)
    (yxxcf_BadLine_ : xcB K c_BadLine [] = true)
    (yxkit_Wrong_BadLine_False : PySem.W.kitOne K (.ref c_BadLine) (.ref c_Wrong) = some false)
    (yxxcf_NoDeed_ : xcB K c_NoDeed [] = true)
    (yxkit_Wrong_NoDeed_False : PySem.W.kitOne K (.ref c_NoDeed) (.ref c_Wrong) = some false)
    (yxxcf_NoFit_ : xcB K c_NoFit [] = true)
    (yxkit_Wrong_NoFit_False : PySem.W.kitOne K (.ref c_NoFit) (.ref c_Wrong) = some false)
    (yxxcf_NoLine_ : xcB K c_NoLine [] = true)
    (yxkit_Wrong_NoLine_False : PySem.W.kitOne K (.ref c_NoLine) (.ref c_Wrong) = some false)
    (yxxcf_NoName_ : xcB K c_NoName [] = true)
    (yxkit_Wrong_NoName_False : PySem.W.kitOne K (.ref c_NoName) (.ref c_Wrong) = some false)
    (yxxcf_NoRow_ : xcB K c_NoRow [] = true)
    (yxkit_Wrong_NoRow_False : PySem.W.kitOne K (.ref c_NoRow) (.ref c_Wrong) = some false)
    (yxxcf_NoRule_ : xcB K c_NoRule [] = true)
    (yxkit_Wrong_NoRule_False : PySem.W.kitOne K (.ref c_NoRule) (.ref c_Wrong) = some false)
    (yxxcf_NoShape_ : xcB K c_NoShape [] = true)
    (yxkit_Wrong_NoShape_False : PySem.W.kitOne K (.ref c_NoShape) (.ref c_Wrong) = some false)
    (yxxcf_NoTable_ : xcB K c_NoTable [] = true)
    (yxkit_Wrong_NoTable_False : PySem.W.kitOne K (.ref c_NoTable) (.ref c_Wrong) = some false)
    (yxxcf_NoText_ : xcB K c_NoText [] = true)
    (yxkit_Wrong_NoText_False : PySem.W.kitOne K (.ref c_NoText) (.ref c_Wrong) = some false)
    (yxxcf_NothingDone_ : xcB K c_NothingDone [] = true)
    (yxkit_Wrong_NothingDone_False : PySem.W.kitOne K (.ref c_NothingDone) (.ref c_Wrong) = some false)
    (yxxcf_Nought_ : xcB K c_Nought [] = true)
    (yxkit_Wrong_Nought_False : PySem.W.kitOne K (.ref c_Nought) (.ref c_Wrong) = some false)
    (yxxcf_TooLong_ : xcB K c_TooLong [] = true)
    (yxkit_Wrong_TooLong_False : PySem.W.kitOne K (.ref c_TooLong) (.ref c_Wrong) = some false)
    (yxxcf_Unlike_ : xcB K c_Unlike [] = true)
    (yxkit_Wrong_Unlike_False : PySem.W.kitOne K (.ref c_Unlike) (.ref c_Wrong) = some false)
    (yxxcf_Wrong_ : xcB K c_Wrong [] = true)
    (yxkit_Wrong_Wrong_True : PySem.W.kitOne K (.ref c_Wrong) (.ref c_Wrong) = some true)
    (yxkit_NoFit_BadLine_False : PySem.W.kitOne K (.ref c_BadLine) (.ref c_NoFit) = some false)
    (yxkit_NoFit_NoDeed_False : PySem.W.kitOne K (.ref c_NoDeed) (.ref c_NoFit) = some false)
    (yxkit_NoFit_NoFit_True : PySem.W.kitOne K (.ref c_NoFit) (.ref c_NoFit) = some true)
    (yxkit_NoFit_NoLine_False : PySem.W.kitOne K (.ref c_NoLine) (.ref c_NoFit) = some false)
    (yxkit_NoFit_NoName_False : PySem.W.kitOne K (.ref c_NoName) (.ref c_NoFit) = some false)
    (yxkit_NoFit_NoRow_False : PySem.W.kitOne K (.ref c_NoRow) (.ref c_NoFit) = some false)
    (yxkit_NoFit_NoRule_False : PySem.W.kitOne K (.ref c_NoRule) (.ref c_NoFit) = some false)
    (yxkit_NoFit_NoShape_False : PySem.W.kitOne K (.ref c_NoShape) (.ref c_NoFit) = some false)
    (yxkit_NoFit_NoTable_False : PySem.W.kitOne K (.ref c_NoTable) (.ref c_NoFit) = some false)
    (yxkit_NoFit_NoText_False : PySem.W.kitOne K (.ref c_NoText) (.ref c_NoFit) = some false)
    (yxkit_NoFit_NothingDone_False : PySem.W.kitOne K (.ref c_NothingDone) (.ref c_NoFit) = some false)
    (yxkit_NoFit_Nought_False : PySem.W.kitOne K (.ref c_Nought) (.ref c_NoFit) = some false)
    (yxkit_NoFit_TooLong_False : PySem.W.kitOne K (.ref c_TooLong) (.ref c_NoFit) = some false)
    (yxkit_NoFit_Unlike_False : PySem.W.kitOne K (.ref c_Unlike) (.ref c_NoFit) = some false)
    (yxkit_NoFit_Wrong_False : PySem.W.kitOne K (.ref c_Wrong) (.ref c_NoFit) = some false)
    (yxkit_NoShape_BadLine_False : PySem.W.kitOne K (.ref c_BadLine) (.ref c_NoShape) = some false)
    (yxkit_NoShape_NoDeed_False : PySem.W.kitOne K (.ref c_NoDeed) (.ref c_NoShape) = some false)
    (yxkit_NoShape_NoFit_False : PySem.W.kitOne K (.ref c_NoFit) (.ref c_NoShape) = some false)
    (yxkit_NoShape_NoLine_False : PySem.W.kitOne K (.ref c_NoLine) (.ref c_NoShape) = some false)
    (yxkit_NoShape_NoName_False : PySem.W.kitOne K (.ref c_NoName) (.ref c_NoShape) = some false)
    (yxkit_NoShape_NoRow_False : PySem.W.kitOne K (.ref c_NoRow) (.ref c_NoShape) = some false)
    (yxkit_NoShape_NoRule_False : PySem.W.kitOne K (.ref c_NoRule) (.ref c_NoShape) = some false)
    (yxkit_NoShape_NoShape_True : PySem.W.kitOne K (.ref c_NoShape) (.ref c_NoShape) = some true)
    (yxkit_NoShape_NoTable_False : PySem.W.kitOne K (.ref c_NoTable) (.ref c_NoShape) = some false)
    (yxkit_NoShape_NoText_False : PySem.W.kitOne K (.ref c_NoText) (.ref c_NoShape) = some false)
    (yxkit_NoShape_NothingDone_False : PySem.W.kitOne K (.ref c_NothingDone) (.ref c_NoShape) = some false)
    (yxkit_NoShape_Nought_False : PySem.W.kitOne K (.ref c_Nought) (.ref c_NoShape) = some false)
    (yxkit_NoShape_TooLong_False : PySem.W.kitOne K (.ref c_TooLong) (.ref c_NoShape) = some false)
    (yxkit_NoShape_Unlike_False : PySem.W.kitOne K (.ref c_Unlike) (.ref c_NoShape) = some false)
    (yxkit_NoShape_Wrong_False : PySem.W.kitOne K (.ref c_Wrong) (.ref c_NoShape) = some false)
    (yxkit_NoRow_BadLine_False : PySem.W.kitOne K (.ref c_BadLine) (.ref c_NoRow) = some false)
    (yxkit_NoRow_NoDeed_False : PySem.W.kitOne K (.ref c_NoDeed) (.ref c_NoRow) = some false)
    (yxkit_NoRow_NoFit_False : PySem.W.kitOne K (.ref c_NoFit) (.ref c_NoRow) = some false)
    (yxkit_NoRow_NoLine_False : PySem.W.kitOne K (.ref c_NoLine) (.ref c_NoRow) = some false)
    (yxkit_NoRow_NoName_False : PySem.W.kitOne K (.ref c_NoName) (.ref c_NoRow) = some false)
    (yxkit_NoRow_NoRow_True : PySem.W.kitOne K (.ref c_NoRow) (.ref c_NoRow) = some true)
    (yxkit_NoRow_NoRule_False : PySem.W.kitOne K (.ref c_NoRule) (.ref c_NoRow) = some false)
    (yxkit_NoRow_NoShape_False : PySem.W.kitOne K (.ref c_NoShape) (.ref c_NoRow) = some false)
    (yxkit_NoRow_NoTable_False : PySem.W.kitOne K (.ref c_NoTable) (.ref c_NoRow) = some false)
    (yxkit_NoRow_NoText_False : PySem.W.kitOne K (.ref c_NoText) (.ref c_NoRow) = some false)
    (yxkit_NoRow_NothingDone_False : PySem.W.kitOne K (.ref c_NothingDone) (.ref c_NoRow) = some false)
    (yxkit_NoRow_Nought_False : PySem.W.kitOne K (.ref c_Nought) (.ref c_NoRow) = some false)
    (yxkit_NoRow_TooLong_False : PySem.W.kitOne K (.ref c_TooLong) (.ref c_NoRow) = some false)
    (yxkit_NoRow_Unlike_False : PySem.W.kitOne K (.ref c_Unlike) (.ref c_NoRow) = some false)
    (yxkit_NoRow_Wrong_False : PySem.W.kitOne K (.ref c_Wrong) (.ref c_NoRow) = some false)
    (yxkit_NoTable_BadLine_False : PySem.W.kitOne K (.ref c_BadLine) (.ref c_NoTable) = some false)
    (yxkit_NoTable_NoDeed_False : PySem.W.kitOne K (.ref c_NoDeed) (.ref c_NoTable) = some false)
    (yxkit_NoTable_NoFit_False : PySem.W.kitOne K (.ref c_NoFit) (.ref c_NoTable) = some false)
    (yxkit_NoTable_NoLine_False : PySem.W.kitOne K (.ref c_NoLine) (.ref c_NoTable) = some false)
    (yxkit_NoTable_NoName_False : PySem.W.kitOne K (.ref c_NoName) (.ref c_NoTable) = some false)
    (yxkit_NoTable_NoRow_False : PySem.W.kitOne K (.ref c_NoRow) (.ref c_NoTable) = some false)
    (yxkit_NoTable_NoRule_False : PySem.W.kitOne K (.ref c_NoRule) (.ref c_NoTable) = some false)
    (yxkit_NoTable_NoShape_False : PySem.W.kitOne K (.ref c_NoShape) (.ref c_NoTable) = some false)
    (yxkit_NoTable_NoTable_True : PySem.W.kitOne K (.ref c_NoTable) (.ref c_NoTable) = some true)
    (yxkit_NoTable_NoText_False : PySem.W.kitOne K (.ref c_NoText) (.ref c_NoTable) = some false)
    (yxkit_NoTable_NothingDone_False : PySem.W.kitOne K (.ref c_NothingDone) (.ref c_NoTable) = some false)
    (yxkit_NoTable_Nought_False : PySem.W.kitOne K (.ref c_Nought) (.ref c_NoTable) = some false)
    (yxkit_NoTable_TooLong_False : PySem.W.kitOne K (.ref c_TooLong) (.ref c_NoTable) = some false)
    (yxkit_NoTable_Unlike_False : PySem.W.kitOne K (.ref c_Unlike) (.ref c_NoTable) = some false)
    (yxkit_NoTable_Wrong_False : PySem.W.kitOne K (.ref c_Wrong) (.ref c_NoTable) = some false)
    (yxkit_TooLong_BadLine_False : PySem.W.kitOne K (.ref c_BadLine) (.ref c_TooLong) = some false)
    (yxkit_TooLong_NoDeed_False : PySem.W.kitOne K (.ref c_NoDeed) (.ref c_TooLong) = some false)
    (yxkit_TooLong_NoFit_False : PySem.W.kitOne K (.ref c_NoFit) (.ref c_TooLong) = some false)
    (yxkit_TooLong_NoLine_False : PySem.W.kitOne K (.ref c_NoLine) (.ref c_TooLong) = some false)
    (yxkit_TooLong_NoName_False : PySem.W.kitOne K (.ref c_NoName) (.ref c_TooLong) = some false)
    (yxkit_TooLong_NoRow_False : PySem.W.kitOne K (.ref c_NoRow) (.ref c_TooLong) = some false)
    (yxkit_TooLong_NoRule_False : PySem.W.kitOne K (.ref c_NoRule) (.ref c_TooLong) = some false)
    (yxkit_TooLong_NoShape_False : PySem.W.kitOne K (.ref c_NoShape) (.ref c_TooLong) = some false)
    (yxkit_TooLong_NoTable_False : PySem.W.kitOne K (.ref c_NoTable) (.ref c_TooLong) = some false)
    (yxkit_TooLong_NoText_False : PySem.W.kitOne K (.ref c_NoText) (.ref c_TooLong) = some false)
    (yxkit_TooLong_NothingDone_False : PySem.W.kitOne K (.ref c_NothingDone) (.ref c_TooLong) = some false)
    (yxkit_TooLong_Nought_False : PySem.W.kitOne K (.ref c_Nought) (.ref c_TooLong) = some false)
    (yxkit_TooLong_TooLong_True : PySem.W.kitOne K (.ref c_TooLong) (.ref c_TooLong) = some true)
    (yxkit_TooLong_Unlike_False : PySem.W.kitOne K (.ref c_Unlike) (.ref c_TooLong) = some false)
    (yxkit_TooLong_Wrong_False : PySem.W.kitOne K (.ref c_Wrong) (.ref c_TooLong) = some false)
    (yxkit_BadLine_BadLine_True : PySem.W.kitOne K (.ref c_BadLine) (.ref c_BadLine) = some true)
    (yxkit_BadLine_NoDeed_False : PySem.W.kitOne K (.ref c_NoDeed) (.ref c_BadLine) = some false)
    (yxkit_BadLine_NoFit_False : PySem.W.kitOne K (.ref c_NoFit) (.ref c_BadLine) = some false)
    (yxkit_BadLine_NoLine_False : PySem.W.kitOne K (.ref c_NoLine) (.ref c_BadLine) = some false)
    (yxkit_BadLine_NoName_False : PySem.W.kitOne K (.ref c_NoName) (.ref c_BadLine) = some false)
    (yxkit_BadLine_NoRow_False : PySem.W.kitOne K (.ref c_NoRow) (.ref c_BadLine) = some false)
    (yxkit_BadLine_NoRule_False : PySem.W.kitOne K (.ref c_NoRule) (.ref c_BadLine) = some false)
    (yxkit_BadLine_NoShape_False : PySem.W.kitOne K (.ref c_NoShape) (.ref c_BadLine) = some false)
    (yxkit_BadLine_NoTable_False : PySem.W.kitOne K (.ref c_NoTable) (.ref c_BadLine) = some false)
    (yxkit_BadLine_NoText_False : PySem.W.kitOne K (.ref c_NoText) (.ref c_BadLine) = some false)
    (yxkit_BadLine_NothingDone_False : PySem.W.kitOne K (.ref c_NothingDone) (.ref c_BadLine) = some false)
    (yxkit_BadLine_Nought_False : PySem.W.kitOne K (.ref c_Nought) (.ref c_BadLine) = some false)
    (yxkit_BadLine_TooLong_False : PySem.W.kitOne K (.ref c_TooLong) (.ref c_BadLine) = some false)
    (yxkit_BadLine_Unlike_False : PySem.W.kitOne K (.ref c_Unlike) (.ref c_BadLine) = some false)
    (yxkit_BadLine_Wrong_False : PySem.W.kitOne K (.ref c_Wrong) (.ref c_BadLine) = some false)
    (yxkit_NoDeed_BadLine_False : PySem.W.kitOne K (.ref c_BadLine) (.ref c_NoDeed) = some false)
    (yxkit_NoDeed_NoDeed_True : PySem.W.kitOne K (.ref c_NoDeed) (.ref c_NoDeed) = some true)
    (yxkit_NoDeed_NoFit_False : PySem.W.kitOne K (.ref c_NoFit) (.ref c_NoDeed) = some false)
    (yxkit_NoDeed_NoLine_False : PySem.W.kitOne K (.ref c_NoLine) (.ref c_NoDeed) = some false)
    (yxkit_NoDeed_NoName_False : PySem.W.kitOne K (.ref c_NoName) (.ref c_NoDeed) = some false)
    (yxkit_NoDeed_NoRow_False : PySem.W.kitOne K (.ref c_NoRow) (.ref c_NoDeed) = some false)
    (yxkit_NoDeed_NoRule_False : PySem.W.kitOne K (.ref c_NoRule) (.ref c_NoDeed) = some false)
    (yxkit_NoDeed_NoShape_False : PySem.W.kitOne K (.ref c_NoShape) (.ref c_NoDeed) = some false)
    (yxkit_NoDeed_NoTable_False : PySem.W.kitOne K (.ref c_NoTable) (.ref c_NoDeed) = some false)
    (yxkit_NoDeed_NoText_False : PySem.W.kitOne K (.ref c_NoText) (.ref c_NoDeed) = some false)
    (yxkit_NoDeed_NothingDone_False : PySem.W.kitOne K (.ref c_NothingDone) (.ref c_NoDeed) = some false)
    (yxkit_NoDeed_Nought_False : PySem.W.kitOne K (.ref c_Nought) (.ref c_NoDeed) = some false)
    (yxkit_NoDeed_TooLong_False : PySem.W.kitOne K (.ref c_TooLong) (.ref c_NoDeed) = some false)
    (yxkit_NoDeed_Unlike_False : PySem.W.kitOne K (.ref c_Unlike) (.ref c_NoDeed) = some false)
    (yxkit_NoDeed_Wrong_False : PySem.W.kitOne K (.ref c_Wrong) (.ref c_NoDeed) = some false)
    (yxkit_NoRule_BadLine_False : PySem.W.kitOne K (.ref c_BadLine) (.ref c_NoRule) = some false)
    (yxkit_NoRule_NoDeed_False : PySem.W.kitOne K (.ref c_NoDeed) (.ref c_NoRule) = some false)
    (yxkit_NoRule_NoFit_False : PySem.W.kitOne K (.ref c_NoFit) (.ref c_NoRule) = some false)
    (yxkit_NoRule_NoLine_False : PySem.W.kitOne K (.ref c_NoLine) (.ref c_NoRule) = some false)
    (yxkit_NoRule_NoName_False : PySem.W.kitOne K (.ref c_NoName) (.ref c_NoRule) = some false)
    (yxkit_NoRule_NoRow_False : PySem.W.kitOne K (.ref c_NoRow) (.ref c_NoRule) = some false)
    (yxkit_NoRule_NoRule_True : PySem.W.kitOne K (.ref c_NoRule) (.ref c_NoRule) = some true)
    (yxkit_NoRule_NoShape_False : PySem.W.kitOne K (.ref c_NoShape) (.ref c_NoRule) = some false)
    (yxkit_NoRule_NoTable_False : PySem.W.kitOne K (.ref c_NoTable) (.ref c_NoRule) = some false)
    (yxkit_NoRule_NoText_False : PySem.W.kitOne K (.ref c_NoText) (.ref c_NoRule) = some false)
    (yxkit_NoRule_NothingDone_False : PySem.W.kitOne K (.ref c_NothingDone) (.ref c_NoRule) = some false)
    (yxkit_NoRule_Nought_False : PySem.W.kitOne K (.ref c_Nought) (.ref c_NoRule) = some false)
    (yxkit_NoRule_TooLong_False : PySem.W.kitOne K (.ref c_TooLong) (.ref c_NoRule) = some false)
    (yxkit_NoRule_Unlike_False : PySem.W.kitOne K (.ref c_Unlike) (.ref c_NoRule) = some false)
    (yxkit_NoRule_Wrong_False : PySem.W.kitOne K (.ref c_Wrong) (.ref c_NoRule) = some false)
    (yxkit_NoText_BadLine_False : PySem.W.kitOne K (.ref c_BadLine) (.ref c_NoText) = some false)
    (yxkit_NoText_NoDeed_False : PySem.W.kitOne K (.ref c_NoDeed) (.ref c_NoText) = some false)
    (yxkit_NoText_NoFit_False : PySem.W.kitOne K (.ref c_NoFit) (.ref c_NoText) = some false)
    (yxkit_NoText_NoLine_False : PySem.W.kitOne K (.ref c_NoLine) (.ref c_NoText) = some false)
    (yxkit_NoText_NoName_False : PySem.W.kitOne K (.ref c_NoName) (.ref c_NoText) = some false)
    (yxkit_NoText_NoRow_False : PySem.W.kitOne K (.ref c_NoRow) (.ref c_NoText) = some false)
    (yxkit_NoText_NoRule_False : PySem.W.kitOne K (.ref c_NoRule) (.ref c_NoText) = some false)
    (yxkit_NoText_NoShape_False : PySem.W.kitOne K (.ref c_NoShape) (.ref c_NoText) = some false)
    (yxkit_NoText_NoTable_False : PySem.W.kitOne K (.ref c_NoTable) (.ref c_NoText) = some false)
    (yxkit_NoText_NoText_True : PySem.W.kitOne K (.ref c_NoText) (.ref c_NoText) = some true)
    (yxkit_NoText_NothingDone_False : PySem.W.kitOne K (.ref c_NothingDone) (.ref c_NoText) = some false)
    (yxkit_NoText_Nought_False : PySem.W.kitOne K (.ref c_Nought) (.ref c_NoText) = some false)
    (yxkit_NoText_TooLong_False : PySem.W.kitOne K (.ref c_TooLong) (.ref c_NoText) = some false)
    (yxkit_NoText_Unlike_False : PySem.W.kitOne K (.ref c_Unlike) (.ref c_NoText) = some false)
    (yxkit_NoText_Wrong_False : PySem.W.kitOne K (.ref c_Wrong) (.ref c_NoText) = some false)
    (yxkit_NoName_BadLine_False : PySem.W.kitOne K (.ref c_BadLine) (.ref c_NoName) = some false)
    (yxkit_NoName_NoDeed_False : PySem.W.kitOne K (.ref c_NoDeed) (.ref c_NoName) = some false)
    (yxkit_NoName_NoFit_False : PySem.W.kitOne K (.ref c_NoFit) (.ref c_NoName) = some false)
    (yxkit_NoName_NoLine_False : PySem.W.kitOne K (.ref c_NoLine) (.ref c_NoName) = some false)
    (yxkit_NoName_NoName_True : PySem.W.kitOne K (.ref c_NoName) (.ref c_NoName) = some true)
    (yxkit_NoName_NoRow_False : PySem.W.kitOne K (.ref c_NoRow) (.ref c_NoName) = some false)
    (yxkit_NoName_NoRule_False : PySem.W.kitOne K (.ref c_NoRule) (.ref c_NoName) = some false)
    (yxkit_NoName_NoShape_False : PySem.W.kitOne K (.ref c_NoShape) (.ref c_NoName) = some false)
    (yxkit_NoName_NoTable_False : PySem.W.kitOne K (.ref c_NoTable) (.ref c_NoName) = some false)
    (yxkit_NoName_NoText_False : PySem.W.kitOne K (.ref c_NoText) (.ref c_NoName) = some false)
    (yxkit_NoName_NothingDone_False : PySem.W.kitOne K (.ref c_NothingDone) (.ref c_NoName) = some false)
    (yxkit_NoName_Nought_False : PySem.W.kitOne K (.ref c_Nought) (.ref c_NoName) = some false)
    (yxkit_NoName_TooLong_False : PySem.W.kitOne K (.ref c_TooLong) (.ref c_NoName) = some false)
    (yxkit_NoName_Unlike_False : PySem.W.kitOne K (.ref c_Unlike) (.ref c_NoName) = some false)
    (yxkit_NoName_Wrong_False : PySem.W.kitOne K (.ref c_Wrong) (.ref c_NoName) = some false)
    (yxkit_Unlike_BadLine_False : PySem.W.kitOne K (.ref c_BadLine) (.ref c_Unlike) = some false)
    (yxkit_Unlike_NoDeed_False : PySem.W.kitOne K (.ref c_NoDeed) (.ref c_Unlike) = some false)
    (yxkit_Unlike_NoFit_False : PySem.W.kitOne K (.ref c_NoFit) (.ref c_Unlike) = some false)
    (yxkit_Unlike_NoLine_False : PySem.W.kitOne K (.ref c_NoLine) (.ref c_Unlike) = some false)
    (yxkit_Unlike_NoName_False : PySem.W.kitOne K (.ref c_NoName) (.ref c_Unlike) = some false)
    (yxkit_Unlike_NoRow_False : PySem.W.kitOne K (.ref c_NoRow) (.ref c_Unlike) = some false)
    (yxkit_Unlike_NoRule_False : PySem.W.kitOne K (.ref c_NoRule) (.ref c_Unlike) = some false)
    (yxkit_Unlike_NoShape_False : PySem.W.kitOne K (.ref c_NoShape) (.ref c_Unlike) = some false)
    (yxkit_Unlike_NoTable_False : PySem.W.kitOne K (.ref c_NoTable) (.ref c_Unlike) = some false)
    (yxkit_Unlike_NoText_False : PySem.W.kitOne K (.ref c_NoText) (.ref c_Unlike) = some false)
    (yxkit_Unlike_NothingDone_False : PySem.W.kitOne K (.ref c_NothingDone) (.ref c_Unlike) = some false)
    (yxkit_Unlike_Nought_False : PySem.W.kitOne K (.ref c_Nought) (.ref c_Unlike) = some false)
    (yxkit_Unlike_TooLong_False : PySem.W.kitOne K (.ref c_TooLong) (.ref c_Unlike) = some false)
    (yxkit_Unlike_Unlike_True : PySem.W.kitOne K (.ref c_Unlike) (.ref c_Unlike) = some true)
    (yxkit_Unlike_Wrong_False : PySem.W.kitOne K (.ref c_Wrong) (.ref c_Unlike) = some false)
    (yxkit_Nought_BadLine_False : PySem.W.kitOne K (.ref c_BadLine) (.ref c_Nought) = some false)
    (yxkit_Nought_NoDeed_False : PySem.W.kitOne K (.ref c_NoDeed) (.ref c_Nought) = some false)
    (yxkit_Nought_NoFit_False : PySem.W.kitOne K (.ref c_NoFit) (.ref c_Nought) = some false)
    (yxkit_Nought_NoLine_False : PySem.W.kitOne K (.ref c_NoLine) (.ref c_Nought) = some false)
    (yxkit_Nought_NoName_False : PySem.W.kitOne K (.ref c_NoName) (.ref c_Nought) = some false)
    (yxkit_Nought_NoRow_False : PySem.W.kitOne K (.ref c_NoRow) (.ref c_Nought) = some false)
    (yxkit_Nought_NoRule_False : PySem.W.kitOne K (.ref c_NoRule) (.ref c_Nought) = some false)
    (yxkit_Nought_NoShape_False : PySem.W.kitOne K (.ref c_NoShape) (.ref c_Nought) = some false)
    (yxkit_Nought_NoTable_False : PySem.W.kitOne K (.ref c_NoTable) (.ref c_Nought) = some false)
    (yxkit_Nought_NoText_False : PySem.W.kitOne K (.ref c_NoText) (.ref c_Nought) = some false)
    (yxkit_Nought_NothingDone_False : PySem.W.kitOne K (.ref c_NothingDone) (.ref c_Nought) = some false)
    (yxkit_Nought_Nought_True : PySem.W.kitOne K (.ref c_Nought) (.ref c_Nought) = some true)
    (yxkit_Nought_TooLong_False : PySem.W.kitOne K (.ref c_TooLong) (.ref c_Nought) = some false)
    (yxkit_Nought_Unlike_False : PySem.W.kitOne K (.ref c_Unlike) (.ref c_Nought) = some false)
    (yxkit_Nought_Wrong_False : PySem.W.kitOne K (.ref c_Wrong) (.ref c_Nought) = some false)
    (yxkit_NothingDone_BadLine_False : PySem.W.kitOne K (.ref c_BadLine) (.ref c_NothingDone) = some false)
    (yxkit_NothingDone_NoDeed_False : PySem.W.kitOne K (.ref c_NoDeed) (.ref c_NothingDone) = some false)
    (yxkit_NothingDone_NoFit_False : PySem.W.kitOne K (.ref c_NoFit) (.ref c_NothingDone) = some false)
    (yxkit_NothingDone_NoLine_False : PySem.W.kitOne K (.ref c_NoLine) (.ref c_NothingDone) = some false)
    (yxkit_NothingDone_NoName_False : PySem.W.kitOne K (.ref c_NoName) (.ref c_NothingDone) = some false)
    (yxkit_NothingDone_NoRow_False : PySem.W.kitOne K (.ref c_NoRow) (.ref c_NothingDone) = some false)
    (yxkit_NothingDone_NoRule_False : PySem.W.kitOne K (.ref c_NoRule) (.ref c_NothingDone) = some false)
    (yxkit_NothingDone_NoShape_False : PySem.W.kitOne K (.ref c_NoShape) (.ref c_NothingDone) = some false)
    (yxkit_NothingDone_NoTable_False : PySem.W.kitOne K (.ref c_NoTable) (.ref c_NothingDone) = some false)
    (yxkit_NothingDone_NoText_False : PySem.W.kitOne K (.ref c_NoText) (.ref c_NothingDone) = some false)
    (yxkit_NothingDone_NothingDone_True : PySem.W.kitOne K (.ref c_NothingDone) (.ref c_NothingDone) = some true)
    (yxkit_NothingDone_Nought_False : PySem.W.kitOne K (.ref c_Nought) (.ref c_NothingDone) = some false)
    (yxkit_NothingDone_TooLong_False : PySem.W.kitOne K (.ref c_TooLong) (.ref c_NothingDone) = some false)
    (yxkit_NothingDone_Unlike_False : PySem.W.kitOne K (.ref c_Unlike) (.ref c_NothingDone) = some false)
    (yxkit_NothingDone_Wrong_False : PySem.W.kitOne K (.ref c_Wrong) (.ref c_NothingDone) = some false)
    (yxkit_NoLine_BadLine_False : PySem.W.kitOne K (.ref c_BadLine) (.ref c_NoLine) = some false)
    (yxkit_NoLine_NoDeed_False : PySem.W.kitOne K (.ref c_NoDeed) (.ref c_NoLine) = some false)
    (yxkit_NoLine_NoFit_False : PySem.W.kitOne K (.ref c_NoFit) (.ref c_NoLine) = some false)
    (yxkit_NoLine_NoLine_True : PySem.W.kitOne K (.ref c_NoLine) (.ref c_NoLine) = some true)
    (yxkit_NoLine_NoName_False : PySem.W.kitOne K (.ref c_NoName) (.ref c_NoLine) = some false)
    (yxkit_NoLine_NoRow_False : PySem.W.kitOne K (.ref c_NoRow) (.ref c_NoLine) = some false)
    (yxkit_NoLine_NoRule_False : PySem.W.kitOne K (.ref c_NoRule) (.ref c_NoLine) = some false)
    (yxkit_NoLine_NoShape_False : PySem.W.kitOne K (.ref c_NoShape) (.ref c_NoLine) = some false)
    (yxkit_NoLine_NoTable_False : PySem.W.kitOne K (.ref c_NoTable) (.ref c_NoLine) = some false)
    (yxkit_NoLine_NoText_False : PySem.W.kitOne K (.ref c_NoText) (.ref c_NoLine) = some false)
    (yxkit_NoLine_NothingDone_False : PySem.W.kitOne K (.ref c_NothingDone) (.ref c_NoLine) = some false)
    (yxkit_NoLine_Nought_False : PySem.W.kitOne K (.ref c_Nought) (.ref c_NoLine) = some false)
    (yxkit_NoLine_TooLong_False : PySem.W.kitOne K (.ref c_TooLong) (.ref c_NoLine) = some false)
    (yxkit_NoLine_Unlike_False : PySem.W.kitOne K (.ref c_Unlike) (.ref c_NoLine) = some false)
    (yxkit_NoLine_Wrong_False : PySem.W.kitOne K (.ref c_Wrong) (.ref c_NoLine) = some false)
    (yxnog_ValueError : PySem.W.nsIn K mainGlobals "ValueError" = some none)
    (yxkib_ValueError_BadLine : PySem.W.kitOne K (.ref c_BadLine) (.type "ValueError") = some true)
    (yxkib_ValueError_NoDeed : PySem.W.kitOne K (.ref c_NoDeed) (.type "ValueError") = some true)
    (yxkib_ValueError_NoFit : PySem.W.kitOne K (.ref c_NoFit) (.type "ValueError") = some true)
    (yxkib_ValueError_NoLine : PySem.W.kitOne K (.ref c_NoLine) (.type "ValueError") = some true)
    (yxkib_ValueError_NoName : PySem.W.kitOne K (.ref c_NoName) (.type "ValueError") = some true)
    (yxkib_ValueError_NoRow : PySem.W.kitOne K (.ref c_NoRow) (.type "ValueError") = some true)
    (yxkib_ValueError_NoRule : PySem.W.kitOne K (.ref c_NoRule) (.type "ValueError") = some true)
    (yxkib_ValueError_NoShape : PySem.W.kitOne K (.ref c_NoShape) (.type "ValueError") = some true)
    (yxkib_ValueError_NoTable : PySem.W.kitOne K (.ref c_NoTable) (.type "ValueError") = some true)
    (yxkib_ValueError_NoText : PySem.W.kitOne K (.ref c_NoText) (.type "ValueError") = some true)
    (yxkib_ValueError_NothingDone : PySem.W.kitOne K (.ref c_NothingDone) (.type "ValueError") = some true)
    (yxkib_ValueError_Nought : PySem.W.kitOne K (.ref c_Nought) (.type "ValueError") = some true)
    (yxkib_ValueError_TooLong : PySem.W.kitOne K (.ref c_TooLong) (.type "ValueError") = some true)
    (yxkib_ValueError_Unlike : PySem.W.kitOne K (.ref c_Unlike) (.type "ValueError") = some true)
    (yxkib_ValueError_Wrong : PySem.W.kitOne K (.ref c_Wrong) (.type "ValueError") = some true)
    (yxkit_LoftError_BadLine_True : PySem.W.kitOne K (.ref c_BadLine) (.ref c_LoftError) = some true)
    (yxkit_LoftError_NoDeed_True : PySem.W.kitOne K (.ref c_NoDeed) (.ref c_LoftError) = some true)
    (yxkit_LoftError_NoFit_True : PySem.W.kitOne K (.ref c_NoFit) (.ref c_LoftError) = some true)
    (yxkit_LoftError_NoLine_True : PySem.W.kitOne K (.ref c_NoLine) (.ref c_LoftError) = some true)
    (yxkit_LoftError_NoName_True : PySem.W.kitOne K (.ref c_NoName) (.ref c_LoftError) = some true)
    (yxkit_LoftError_NoRow_True : PySem.W.kitOne K (.ref c_NoRow) (.ref c_LoftError) = some true)
    (yxkit_LoftError_NoRule_True : PySem.W.kitOne K (.ref c_NoRule) (.ref c_LoftError) = some true)
    (yxkit_LoftError_NoShape_True : PySem.W.kitOne K (.ref c_NoShape) (.ref c_LoftError) = some true)
    (yxkit_LoftError_NoTable_True : PySem.W.kitOne K (.ref c_NoTable) (.ref c_LoftError) = some true)
    (yxkit_LoftError_NoText_True : PySem.W.kitOne K (.ref c_NoText) (.ref c_LoftError) = some true)
    (yxkit_LoftError_NothingDone_True : PySem.W.kitOne K (.ref c_NothingDone) (.ref c_LoftError) = some true)
    (yxkit_LoftError_Nought_True : PySem.W.kitOne K (.ref c_Nought) (.ref c_LoftError) = some true)
    (yxkit_LoftError_TooLong_True : PySem.W.kitOne K (.ref c_TooLong) (.ref c_LoftError) = some true)
    (yxkit_LoftError_Unlike_True : PySem.W.kitOne K (.ref c_Unlike) (.ref c_LoftError) = some true)
    (yxkit_LoftError_Wrong_True : PySem.W.kitOne K (.ref c_Wrong) (.ref c_LoftError) = some true)
    (yxxcf_NoShape_part : xcB K c_NoShape ["part"] = true)
    (yxxcf_NoFit_number : xcB K c_NoFit ["number"] = true)
    (yxxcf_TooLong_number : xcB K c_TooLong ["number"] = true)
    (yxxcf_Wrong_why : xcB K c_Wrong ["why"] = true)
    (yxxcf_Wrong_place : xcB K c_Wrong ["place"] = true)
    (yxxcf_BadLine_at : xcB K c_BadLine ["at"] = true)
    (yxxcf_NoRow_at : xcB K c_NoRow ["at"] = true)
    (yxxcf_NoTable_at : xcB K c_NoTable ["at"] = true)
    (yxxcf_NoRule_rule : xcB K c_NoRule ["rule"] = true)
    (yxxcf_NoDeed_deed : xcB K c_NoDeed ["deed"] = true)
    (yxxcf_NoName_name : xcB K c_NoName ["name"] = true)
    : ∃ fd : FuncData, (∀ (s : Shared) (u : Value), BindsTo s fd ⟨[u], []⟩ [("_law_script", u)]) ∧ ∀ base : Heap, K.In base → base.Ns mainGlobals mg → FnOk l.prog w K mg base (L2N.CX l.prog w) 14 fa fd ["_law_script"] (spF K mg 1 [] f_law142) := by
  have e := hfa.symm.trans (PySem.W.mg_of X G a11)
  cases e
  have B : Bn mg := ⟨PySem.W.mg_none_of X G z_len, PySem.W.mg_none_of X G z_range, PySem.W.mg_none_of X G z_abs, PySem.W.mg_none_of X G z_max, PySem.W.mg_none_of X G z_min, PySem.W.mg_none_of X G z_int, PySem.W.mg_none_of X G z_str, PySem.W.mg_none_of X G z_tuple, PySem.W.mg_none_of X G z_list, PySem.W.mg_none_of X G z_all, PySem.W.mg_none_of X G z_any, PySem.W.mg_none_of X G z_isinstance, PySem.W.mg_none_of X G z_divmod, PySem.W.mg_none_of X G z_sum, PySem.W.mg_none_of X G z_zip, PySem.W.mg_none_of X G z_enumerate, PySem.W.mg_none_of X G z_reversed, PySem.W.mg_none_of X G z_sorted, PySem.W.mg_none_of X G z_dict, PySem.W.mg_none_of X G z_set, PySem.W.mg_none_of X G z_bool⟩
  have F0 := fun_mk (st := s_lraised) l0 c0 k0
  have b0 := F0.binds (ps := ["_law_which", "_law_first", "_law_second"]) fun _ _ _ _ _ _ us hl => match us, hl with | [_, _, _], _ => rfl
  have F1 := fun_mk (st := s_lraised_of_text) l1 c1 k1
  have b1 := F1.binds (ps := ["_law_which", "_law_text"]) fun _ _ _ _ _ _ us hl => match us, hl with | [_, _], _ => rfl
  have F2 := fun_mk (st := s_lmet) l2 c2 k2
  have b2 := F2.binds (ps := ["_law_which", "_law_first", "_law_second"]) fun _ _ _ _ _ _ us hl => match us, hl with | [_, _, _], _ => rfl
  have F3 := fun_mk (st := s_lmixed) l3 c3 k3
  have b3 := F3.binds (ps := ["_law_cell_here", "_law_k", "_law_salt"]) fun _ _ _ _ _ _ us hl => match us, hl with | [_, _, _], _ => rfl
  have F4 := fun_mk (st := s_ldraws) l4 c4 k4
  have b4 := F4.binds (ps := ["_law_cell_here", "_law_salt", "_law_widths"]) fun _ _ _ _ _ _ us hl => match us, hl with | [_, _, _], _ => rfl
  have F5 := fun_mk (st := s_lthing) l5 c5 k5
  have b5 := F5.binds (ps := ["_law_cell_here", "_law_salt"]) fun _ _ _ _ _ _ us hl => match us, hl with | [_, _], _ => rfl
  have F6 := fun_mk (st := s_ljust) l6 c6 k6
  have b6 := F6.binds (ps := ["_law_found", "_law_due"]) fun _ _ _ _ _ _ us hl => match us, hl with | [_, _], _ => rfl
  have F7 := fun_mk (st := s_lsorts2) l7 c7 k7
  have b7 := F7.binds (ps := ["_law_e"]) fun _ _ _ _ _ _ us hl => match us, hl with | [_], _ => rfl
  have F8 := fun_mk (st := s_lfields2) l8 c8 k8
  have b8 := F8.binds (ps := ["_law_e", "_law_which"]) fun _ _ _ _ _ _ us hl => match us, hl with | [_, _], _ => rfl
  have F9 := fun_mk (st := s_lright11) l9 c9 k9
  have b9 := F9.binds (ps := ["_law_e", "_law_which", "_law_word", "_law_first", "_law_second"]) fun _ _ _ _ _ _ us hl => match us, hl with | [_, _, _, _, _], _ => rfl
  have F10 := fun_mk (st := s_lcell) l10 c10 k10
  have b10 := F10.binds (ps := ["_law_script", "_law_k"]) fun _ _ _ _ _ _ us hl => match us, hl with | [_, _], _ => rfl
  have F11 := fun_mk (st := s_law142) l11 c11 k11
  have b11 := F11.binds (ps := ["_law_script"]) fun _ _ _ _ _ _ us hl => match us, hl with | [_], _ => rfl
  refine ⟨PySem.W.fnOf "law" "law" (defArgs s_law142) (defBody s_law142) (defScope s_law142) .none kV11 dc11 pm11 an11 cd11 ct11, fun s v => .of_eq rfl, fun base _ _ => ?_⟩
  have B_LoftError : Bas K mg "LoftError" := ⟨c_LoftError, PySem.W.mg_of X G n_LoftError, b1_LoftError, b2_LoftError, b3_LoftError⟩
  have FI_BadLine := fun_mk (st := s_ini_BadLine) g_BadLine h_BadLine_ m_BadLine_
  have bI_BadLine := FI_BadLine.binds (ps := ["self", "at"]) fun _ _ _ _ _ _ us hl => match us, hl with | [_, _], _ => rfl
  have FI_NoDeed := fun_mk (st := s_ini_NoDeed) g_NoDeed h_NoDeed_ m_NoDeed_
  have bI_NoDeed := FI_NoDeed.binds (ps := ["self", "deed"]) fun _ _ _ _ _ _ us hl => match us, hl with | [_, _], _ => rfl
  have FI_NoFit := fun_mk (st := s_ini_NoFit) g_NoFit h_NoFit_ m_NoFit_
  have bI_NoFit := FI_NoFit.binds (ps := ["self", "number"]) fun _ _ _ _ _ _ us hl => match us, hl with | [_, _], _ => rfl
  have FI_NoName := fun_mk (st := s_ini_NoName) g_NoName h_NoName_ m_NoName_
  have bI_NoName := FI_NoName.binds (ps := ["self", "name"]) fun _ _ _ _ _ _ us hl => match us, hl with | [_, _], _ => rfl
  have FI_NoRow := fun_mk (st := s_ini_NoRow) g_NoRow h_NoRow_ m_NoRow_
  have bI_NoRow := FI_NoRow.binds (ps := ["self", "at"]) fun _ _ _ _ _ _ us hl => match us, hl with | [_, _], _ => rfl
  have FI_NoRule := fun_mk (st := s_ini_NoRule) g_NoRule h_NoRule_ m_NoRule_
  have bI_NoRule := FI_NoRule.binds (ps := ["self", "rule"]) fun _ _ _ _ _ _ us hl => match us, hl with | [_, _], _ => rfl
  have FI_NoShape := fun_mk (st := s_ini_NoShape) g_NoShape h_NoShape_ m_NoShape_
  have bI_NoShape := FI_NoShape.binds (ps := ["self", "part"]) fun _ _ _ _ _ _ us hl => match us, hl with | [_, _], _ => rfl
  have FI_NoTable := fun_mk (st := s_ini_NoTable) g_NoTable h_NoTable_ m_NoTable_
  have bI_NoTable := FI_NoTable.binds (ps := ["self", "at"]) fun _ _ _ _ _ _ us hl => match us, hl with | [_, _], _ => rfl
  have FI_TooLong := fun_mk (st := s_ini_TooLong) g_TooLong h_TooLong_ m_TooLong_
  have bI_TooLong := FI_TooLong.binds (ps := ["self", "number"]) fun _ _ _ _ _ _ us hl => match us, hl with | [_, _], _ => rfl
  have FI_Wrong := fun_mk (st := s_ini_Wrong) g_Wrong h_Wrong_ m_Wrong_
  have bI_Wrong := FI_Wrong.binds (ps := ["self", "place", "why"]) fun _ _ _ _ _ _ us hl => match us, hl with | [_, _, _], _ => rfl
  have xcl1_NoShape_part : Cl1 l.prog w K mg base "NoShape" "part" := ⟨_, _, _, _, owX_mk (PySem.W.mg_of X G n_NoShape) l_NoShape rfl s_NoShape e_NoShape t_NoShape p_NoShape i_NoShape_ j_NoShape, f_NoShape_part, ini_NoShape FI_NoShape B_LoftError, bI_NoShape⟩
  have xcl1_NoFit_number : Cl1 l.prog w K mg base "NoFit" "number" := ⟨_, _, _, _, owX_mk (PySem.W.mg_of X G n_NoFit) l_NoFit rfl s_NoFit e_NoFit t_NoFit p_NoFit i_NoFit_ j_NoFit, f_NoFit_number, ini_NoFit FI_NoFit B_LoftError, bI_NoFit⟩
  have xcl2_Wrong_place_why : Cl2 l.prog w K mg base "Wrong" "place" "why" := ⟨_, _, _, _, owX_mk (PySem.W.mg_of X G n_Wrong) l_Wrong rfl s_Wrong e_Wrong t_Wrong p_Wrong i_Wrong_ j_Wrong, f_Wrong_place, f_Wrong_why, ini_Wrong FI_Wrong B_LoftError, bI_Wrong⟩
  have xcl1_NoTable_at : Cl1 l.prog w K mg base "NoTable" "at" := ⟨_, _, _, _, owX_mk (PySem.W.mg_of X G n_NoTable) l_NoTable rfl s_NoTable e_NoTable t_NoTable p_NoTable i_NoTable_ j_NoTable, f_NoTable_at, ini_NoTable FI_NoTable B_LoftError, bI_NoTable⟩
  have xcl1_NoRow_at : Cl1 l.prog w K mg base "NoRow" "at" := ⟨_, _, _, _, owX_mk (PySem.W.mg_of X G n_NoRow) l_NoRow rfl s_NoRow e_NoRow t_NoRow p_NoRow i_NoRow_ j_NoRow, f_NoRow_at, ini_NoRow FI_NoRow B_LoftError, bI_NoRow⟩
  have xcl1_BadLine_at : Cl1 l.prog w K mg base "BadLine" "at" := ⟨_, _, _, _, owX_mk (PySem.W.mg_of X G n_BadLine) l_BadLine rfl s_BadLine e_BadLine t_BadLine p_BadLine i_BadLine_ j_BadLine, f_BadLine_at, ini_BadLine FI_BadLine B_LoftError, bI_BadLine⟩
  have xcl1_TooLong_number : Cl1 l.prog w K mg base "TooLong" "number" := ⟨_, _, _, _, owX_mk (PySem.W.mg_of X G n_TooLong) l_TooLong rfl s_TooLong e_TooLong t_TooLong p_TooLong i_TooLong_ j_TooLong, f_TooLong_number, ini_TooLong FI_TooLong B_LoftError, bI_TooLong⟩
  have xcl1_NoRule_rule : Cl1 l.prog w K mg base "NoRule" "rule" := ⟨_, _, _, _, owX_mk (PySem.W.mg_of X G n_NoRule) l_NoRule rfl s_NoRule e_NoRule t_NoRule p_NoRule i_NoRule_ j_NoRule, f_NoRule_rule, ini_NoRule FI_NoRule B_LoftError, bI_NoRule⟩
  have xcl1_NoDeed_deed : Cl1 l.prog w K mg base "NoDeed" "deed" := ⟨_, _, _, _, owX_mk (PySem.W.mg_of X G n_NoDeed) l_NoDeed rfl s_NoDeed e_NoDeed t_NoDeed p_NoDeed i_NoDeed_ j_NoDeed, f_NoDeed_deed, ini_NoDeed FI_NoDeed B_LoftError, bI_NoDeed⟩
  have xcl1_NoName_name : Cl1 l.prog w K mg base "NoName" "name" := ⟨_, _, _, _, owX_mk (PySem.W.mg_of X G n_NoName) l_NoName rfl s_NoName e_NoName t_NoName p_NoName i_NoName_ j_NoName, f_NoName_name, ini_NoName FI_NoName B_LoftError, bI_NoName⟩
  have xcl0_NoText : Cl0 K mg "NoText" := ⟨_, PySem.W.mg_of X G n_NoText, yxcl0_NoText1, yxcl0_NoText2, yxcl0_NoText3, yxcl0_NoText4⟩
  have xcl0_Nought : Cl0 K mg "Nought" := ⟨_, PySem.W.mg_of X G n_Nought, yxcl0_Nought1, yxcl0_Nought2, yxcl0_Nought3, yxcl0_Nought4⟩
  have xcl0_Unlike : Cl0 K mg "Unlike" := ⟨_, PySem.W.mg_of X G n_Unlike, yxcl0_Unlike1, yxcl0_Unlike2, yxcl0_Unlike3, yxcl0_Unlike4⟩
  have xcl0_NoLine : Cl0 K mg "NoLine" := ⟨_, PySem.W.mg_of X G n_NoLine, yxcl0_NoLine1, yxcl0_NoLine2, yxcl0_NoLine3, yxcl0_NoLine4⟩
  have xcl0_NothingDone : Cl0 K mg "NothingDone" := ⟨_, PySem.W.mg_of X G n_NothingDone, yxcl0_NothingDone1, yxcl0_NothingDone2, yxcl0_NothingDone3, yxcl0_NothingDone4⟩
  have xext_LoftError_Wrong_True : ExT K mg "LoftError" "Wrong" true := ⟨_, _, PySem.W.mg_of X G n_Wrong, PySem.W.mg_of X G n_LoftError, yxext_LoftError_Wrong_True⟩
  have xext_LoftError_Unlike_True : ExT K mg "LoftError" "Unlike" true := ⟨_, _, PySem.W.mg_of X G n_Unlike, PySem.W.mg_of X G n_LoftError, yxext_LoftError_Unlike_True⟩
  have xext_LoftError_TooLong_True : ExT K mg "LoftError" "TooLong" true := ⟨_, _, PySem.W.mg_of X G n_TooLong, PySem.W.mg_of X G n_LoftError, yxext_LoftError_TooLong_True⟩
  have xext_LoftError_Nought_True : ExT K mg "LoftError" "Nought" true := ⟨_, _, PySem.W.mg_of X G n_Nought, PySem.W.mg_of X G n_LoftError, yxext_LoftError_Nought_True⟩
  have xext_LoftError_NothingDone_True : ExT K mg "LoftError" "NothingDone" true := ⟨_, _, PySem.W.mg_of X G n_NothingDone, PySem.W.mg_of X G n_LoftError, yxext_LoftError_NothingDone_True⟩
  have xext_LoftError_NoText_True : ExT K mg "LoftError" "NoText" true := ⟨_, _, PySem.W.mg_of X G n_NoText, PySem.W.mg_of X G n_LoftError, yxext_LoftError_NoText_True⟩
  have xext_LoftError_NoTable_True : ExT K mg "LoftError" "NoTable" true := ⟨_, _, PySem.W.mg_of X G n_NoTable, PySem.W.mg_of X G n_LoftError, yxext_LoftError_NoTable_True⟩
  have xext_LoftError_NoShape_True : ExT K mg "LoftError" "NoShape" true := ⟨_, _, PySem.W.mg_of X G n_NoShape, PySem.W.mg_of X G n_LoftError, yxext_LoftError_NoShape_True⟩
  have xext_LoftError_NoRule_True : ExT K mg "LoftError" "NoRule" true := ⟨_, _, PySem.W.mg_of X G n_NoRule, PySem.W.mg_of X G n_LoftError, yxext_LoftError_NoRule_True⟩
  have xext_LoftError_NoRow_True : ExT K mg "LoftError" "NoRow" true := ⟨_, _, PySem.W.mg_of X G n_NoRow, PySem.W.mg_of X G n_LoftError, yxext_LoftError_NoRow_True⟩
  have xext_LoftError_NoName_True : ExT K mg "LoftError" "NoName" true := ⟨_, _, PySem.W.mg_of X G n_NoName, PySem.W.mg_of X G n_LoftError, yxext_LoftError_NoName_True⟩
  have xext_LoftError_NoLine_True : ExT K mg "LoftError" "NoLine" true := ⟨_, _, PySem.W.mg_of X G n_NoLine, PySem.W.mg_of X G n_LoftError, yxext_LoftError_NoLine_True⟩
  have xext_LoftError_NoFit_True : ExT K mg "LoftError" "NoFit" true := ⟨_, _, PySem.W.mg_of X G n_NoFit, PySem.W.mg_of X G n_LoftError, yxext_LoftError_NoFit_True⟩
  have xext_LoftError_NoDeed_True : ExT K mg "LoftError" "NoDeed" true := ⟨_, _, PySem.W.mg_of X G n_NoDeed, PySem.W.mg_of X G n_LoftError, yxext_LoftError_NoDeed_True⟩
  have xext_LoftError_BadLine_True : ExT K mg "LoftError" "BadLine" true := ⟨_, _, PySem.W.mg_of X G n_BadLine, PySem.W.mg_of X G n_LoftError, yxext_LoftError_BadLine_True⟩
  have xcls_LoftError : ∃ D, mg "LoftError" = some (.ref D) := ⟨_, PySem.W.mg_of X G n_LoftError⟩
  have xexg_BadLine : FnG K mg "BadLine" := ⟨⟨c_BadLine, PySem.W.mg_of X G n_BadLine, n_BadLine⟩⟩
  have xexg_NoDeed : FnG K mg "NoDeed" := ⟨⟨c_NoDeed, PySem.W.mg_of X G n_NoDeed, n_NoDeed⟩⟩
  have xexg_NoFit : FnG K mg "NoFit" := ⟨⟨c_NoFit, PySem.W.mg_of X G n_NoFit, n_NoFit⟩⟩
  have xexg_NoLine : FnG K mg "NoLine" := ⟨⟨c_NoLine, PySem.W.mg_of X G n_NoLine, n_NoLine⟩⟩
  have xexg_NoName : FnG K mg "NoName" := ⟨⟨c_NoName, PySem.W.mg_of X G n_NoName, n_NoName⟩⟩
  have xexg_NoRow : FnG K mg "NoRow" := ⟨⟨c_NoRow, PySem.W.mg_of X G n_NoRow, n_NoRow⟩⟩
  have xexg_NoRule : FnG K mg "NoRule" := ⟨⟨c_NoRule, PySem.W.mg_of X G n_NoRule, n_NoRule⟩⟩
  have xexg_NoShape : FnG K mg "NoShape" := ⟨⟨c_NoShape, PySem.W.mg_of X G n_NoShape, n_NoShape⟩⟩
  have xexg_NoTable : FnG K mg "NoTable" := ⟨⟨c_NoTable, PySem.W.mg_of X G n_NoTable, n_NoTable⟩⟩
  have xexg_NoText : FnG K mg "NoText" := ⟨⟨c_NoText, PySem.W.mg_of X G n_NoText, n_NoText⟩⟩
  have xexg_NothingDone : FnG K mg "NothingDone" := ⟨⟨c_NothingDone, PySem.W.mg_of X G n_NothingDone, n_NothingDone⟩⟩
  have xexg_Nought : FnG K mg "Nought" := ⟨⟨c_Nought, PySem.W.mg_of X G n_Nought, n_Nought⟩⟩
  have xexg_TooLong : FnG K mg "TooLong" := ⟨⟨c_TooLong, PySem.W.mg_of X G n_TooLong, n_TooLong⟩⟩
  have xexg_Unlike : FnG K mg "Unlike" := ⟨⟨c_Unlike, PySem.W.mg_of X G n_Unlike, n_Unlike⟩⟩
  have xexg_Wrong : FnG K mg "Wrong" := ⟨⟨c_Wrong, PySem.W.mg_of X G n_Wrong, n_Wrong⟩⟩
  have xcls_Wrong : ∃ D, mg "Wrong" = some (.ref D) := ⟨_, PySem.W.mg_of X G n_Wrong⟩
  have xxcf_BadLine_ : XcF K mg [] "BadLine" := ⟨_, PySem.W.mg_of X G n_BadLine, yxxcf_BadLine_⟩
  have xkit_Wrong_BadLine_False : KiT K mg "Wrong" "BadLine" false := ⟨_, _, PySem.W.mg_of X G n_BadLine, PySem.W.mg_of X G n_Wrong, yxkit_Wrong_BadLine_False⟩
  have xxcf_NoDeed_ : XcF K mg [] "NoDeed" := ⟨_, PySem.W.mg_of X G n_NoDeed, yxxcf_NoDeed_⟩
  have xkit_Wrong_NoDeed_False : KiT K mg "Wrong" "NoDeed" false := ⟨_, _, PySem.W.mg_of X G n_NoDeed, PySem.W.mg_of X G n_Wrong, yxkit_Wrong_NoDeed_False⟩
  have xxcf_NoFit_ : XcF K mg [] "NoFit" := ⟨_, PySem.W.mg_of X G n_NoFit, yxxcf_NoFit_⟩
  have xkit_Wrong_NoFit_False : KiT K mg "Wrong" "NoFit" false := ⟨_, _, PySem.W.mg_of X G n_NoFit, PySem.W.mg_of X G n_Wrong, yxkit_Wrong_NoFit_False⟩
  have xxcf_NoLine_ : XcF K mg [] "NoLine" := ⟨_, PySem.W.mg_of X G n_NoLine, yxxcf_NoLine_⟩
  have xkit_Wrong_NoLine_False : KiT K mg "Wrong" "NoLine" false := ⟨_, _, PySem.W.mg_of X G n_NoLine, PySem.W.mg_of X G n_Wrong, yxkit_Wrong_NoLine_False⟩
  have xxcf_NoName_ : XcF K mg [] "NoName" := ⟨_, PySem.W.mg_of X G n_NoName, yxxcf_NoName_⟩
  have xkit_Wrong_NoName_False : KiT K mg "Wrong" "NoName" false := ⟨_, _, PySem.W.mg_of X G n_NoName, PySem.W.mg_of X G n_Wrong, yxkit_Wrong_NoName_False⟩
  have xxcf_NoRow_ : XcF K mg [] "NoRow" := ⟨_, PySem.W.mg_of X G n_NoRow, yxxcf_NoRow_⟩
  have xkit_Wrong_NoRow_False : KiT K mg "Wrong" "NoRow" false := ⟨_, _, PySem.W.mg_of X G n_NoRow, PySem.W.mg_of X G n_Wrong, yxkit_Wrong_NoRow_False⟩
  have xxcf_NoRule_ : XcF K mg [] "NoRule" := ⟨_, PySem.W.mg_of X G n_NoRule, yxxcf_NoRule_⟩
  have xkit_Wrong_NoRule_False : KiT K mg "Wrong" "NoRule" false := ⟨_, _, PySem.W.mg_of X G n_NoRule, PySem.W.mg_of X G n_Wrong, yxkit_Wrong_NoRule_False⟩
  have xxcf_NoShape_ : XcF K mg [] "NoShape" := ⟨_, PySem.W.mg_of X G n_NoShape, yxxcf_NoShape_⟩
  have xkit_Wrong_NoShape_False : KiT K mg "Wrong" "NoShape" false := ⟨_, _, PySem.W.mg_of X G n_NoShape, PySem.W.mg_of X G n_Wrong, yxkit_Wrong_NoShape_False⟩
  have xxcf_NoTable_ : XcF K mg [] "NoTable" := ⟨_, PySem.W.mg_of X G n_NoTable, yxxcf_NoTable_⟩
  have xkit_Wrong_NoTable_False : KiT K mg "Wrong" "NoTable" false := ⟨_, _, PySem.W.mg_of X G n_NoTable, PySem.W.mg_of X G n_Wrong, yxkit_Wrong_NoTable_False⟩
  have xxcf_NoText_ : XcF K mg [] "NoText" := ⟨_, PySem.W.mg_of X G n_NoText, yxxcf_NoText_⟩
  have xkit_Wrong_NoText_False : KiT K mg "Wrong" "NoText" false := ⟨_, _, PySem.W.mg_of X G n_NoText, PySem.W.mg_of X G n_Wrong, yxkit_Wrong_NoText_False⟩
  have xxcf_NothingDone_ : XcF K mg [] "NothingDone" := ⟨_, PySem.W.mg_of X G n_NothingDone, yxxcf_NothingDone_⟩
  have xkit_Wrong_NothingDone_False : KiT K mg "Wrong" "NothingDone" false := ⟨_, _, PySem.W.mg_of X G n_NothingDone, PySem.W.mg_of X G n_Wrong, yxkit_Wrong_NothingDone_False⟩
  have xxcf_Nought_ : XcF K mg [] "Nought" := ⟨_, PySem.W.mg_of X G n_Nought, yxxcf_Nought_⟩
  have xkit_Wrong_Nought_False : KiT K mg "Wrong" "Nought" false := ⟨_, _, PySem.W.mg_of X G n_Nought, PySem.W.mg_of X G n_Wrong, yxkit_Wrong_Nought_False⟩
  have xxcf_TooLong_ : XcF K mg [] "TooLong" := ⟨_, PySem.W.mg_of X G n_TooLong, yxxcf_TooLong_⟩
  have xkit_Wrong_TooLong_False : KiT K mg "Wrong" "TooLong" false := ⟨_, _, PySem.W.mg_of X G n_TooLong, PySem.W.mg_of X G n_Wrong, yxkit_Wrong_TooLong_False⟩
  have xxcf_Unlike_ : XcF K mg [] "Unlike" := ⟨_, PySem.W.mg_of X G n_Unlike, yxxcf_Unlike_⟩
  have xkit_Wrong_Unlike_False : KiT K mg "Wrong" "Unlike" false := ⟨_, _, PySem.W.mg_of X G n_Unlike, PySem.W.mg_of X G n_Wrong, yxkit_Wrong_Unlike_False⟩
  have xxcf_Wrong_ : XcF K mg [] "Wrong" := ⟨_, PySem.W.mg_of X G n_Wrong, yxxcf_Wrong_⟩
  have xkit_Wrong_Wrong_True : KiT K mg "Wrong" "Wrong" true := ⟨_, _, PySem.W.mg_of X G n_Wrong, PySem.W.mg_of X G n_Wrong, yxkit_Wrong_Wrong_True⟩
  have xcls_NoFit : ∃ D, mg "NoFit" = some (.ref D) := ⟨_, PySem.W.mg_of X G n_NoFit⟩
  have xkit_NoFit_BadLine_False : KiT K mg "NoFit" "BadLine" false := ⟨_, _, PySem.W.mg_of X G n_BadLine, PySem.W.mg_of X G n_NoFit, yxkit_NoFit_BadLine_False⟩
  have xkit_NoFit_NoDeed_False : KiT K mg "NoFit" "NoDeed" false := ⟨_, _, PySem.W.mg_of X G n_NoDeed, PySem.W.mg_of X G n_NoFit, yxkit_NoFit_NoDeed_False⟩
  have xkit_NoFit_NoFit_True : KiT K mg "NoFit" "NoFit" true := ⟨_, _, PySem.W.mg_of X G n_NoFit, PySem.W.mg_of X G n_NoFit, yxkit_NoFit_NoFit_True⟩
  have xkit_NoFit_NoLine_False : KiT K mg "NoFit" "NoLine" false := ⟨_, _, PySem.W.mg_of X G n_NoLine, PySem.W.mg_of X G n_NoFit, yxkit_NoFit_NoLine_False⟩
  have xkit_NoFit_NoName_False : KiT K mg "NoFit" "NoName" false := ⟨_, _, PySem.W.mg_of X G n_NoName, PySem.W.mg_of X G n_NoFit, yxkit_NoFit_NoName_False⟩
  have xkit_NoFit_NoRow_False : KiT K mg "NoFit" "NoRow" false := ⟨_, _, PySem.W.mg_of X G n_NoRow, PySem.W.mg_of X G n_NoFit, yxkit_NoFit_NoRow_False⟩
  have xkit_NoFit_NoRule_False : KiT K mg "NoFit" "NoRule" false := ⟨_, _, PySem.W.mg_of X G n_NoRule, PySem.W.mg_of X G n_NoFit, yxkit_NoFit_NoRule_False⟩
  have xkit_NoFit_NoShape_False : KiT K mg "NoFit" "NoShape" false := ⟨_, _, PySem.W.mg_of X G n_NoShape, PySem.W.mg_of X G n_NoFit, yxkit_NoFit_NoShape_False⟩
  have xkit_NoFit_NoTable_False : KiT K mg "NoFit" "NoTable" false := ⟨_, _, PySem.W.mg_of X G n_NoTable, PySem.W.mg_of X G n_NoFit, yxkit_NoFit_NoTable_False⟩
  have xkit_NoFit_NoText_False : KiT K mg "NoFit" "NoText" false := ⟨_, _, PySem.W.mg_of X G n_NoText, PySem.W.mg_of X G n_NoFit, yxkit_NoFit_NoText_False⟩
  have xkit_NoFit_NothingDone_False : KiT K mg "NoFit" "NothingDone" false := ⟨_, _, PySem.W.mg_of X G n_NothingDone, PySem.W.mg_of X G n_NoFit, yxkit_NoFit_NothingDone_False⟩
  have xkit_NoFit_Nought_False : KiT K mg "NoFit" "Nought" false := ⟨_, _, PySem.W.mg_of X G n_Nought, PySem.W.mg_of X G n_NoFit, yxkit_NoFit_Nought_False⟩
  have xkit_NoFit_TooLong_False : KiT K mg "NoFit" "TooLong" false := ⟨_, _, PySem.W.mg_of X G n_TooLong, PySem.W.mg_of X G n_NoFit, yxkit_NoFit_TooLong_False⟩
  have xkit_NoFit_Unlike_False : KiT K mg "NoFit" "Unlike" false := ⟨_, _, PySem.W.mg_of X G n_Unlike, PySem.W.mg_of X G n_NoFit, yxkit_NoFit_Unlike_False⟩
  have xkit_NoFit_Wrong_False : KiT K mg "NoFit" "Wrong" false := ⟨_, _, PySem.W.mg_of X G n_Wrong, PySem.W.mg_of X G n_NoFit, yxkit_NoFit_Wrong_False⟩
  have xcls_NoShape : ∃ D, mg "NoShape" = some (.ref D) := ⟨_, PySem.W.mg_of X G n_NoShape⟩
  have xkit_NoShape_BadLine_False : KiT K mg "NoShape" "BadLine" false := ⟨_, _, PySem.W.mg_of X G n_BadLine, PySem.W.mg_of X G n_NoShape, yxkit_NoShape_BadLine_False⟩
  have xkit_NoShape_NoDeed_False : KiT K mg "NoShape" "NoDeed" false := ⟨_, _, PySem.W.mg_of X G n_NoDeed, PySem.W.mg_of X G n_NoShape, yxkit_NoShape_NoDeed_False⟩
  have xkit_NoShape_NoFit_False : KiT K mg "NoShape" "NoFit" false := ⟨_, _, PySem.W.mg_of X G n_NoFit, PySem.W.mg_of X G n_NoShape, yxkit_NoShape_NoFit_False⟩
  have xkit_NoShape_NoLine_False : KiT K mg "NoShape" "NoLine" false := ⟨_, _, PySem.W.mg_of X G n_NoLine, PySem.W.mg_of X G n_NoShape, yxkit_NoShape_NoLine_False⟩
  have xkit_NoShape_NoName_False : KiT K mg "NoShape" "NoName" false := ⟨_, _, PySem.W.mg_of X G n_NoName, PySem.W.mg_of X G n_NoShape, yxkit_NoShape_NoName_False⟩
  have xkit_NoShape_NoRow_False : KiT K mg "NoShape" "NoRow" false := ⟨_, _, PySem.W.mg_of X G n_NoRow, PySem.W.mg_of X G n_NoShape, yxkit_NoShape_NoRow_False⟩
  have xkit_NoShape_NoRule_False : KiT K mg "NoShape" "NoRule" false := ⟨_, _, PySem.W.mg_of X G n_NoRule, PySem.W.mg_of X G n_NoShape, yxkit_NoShape_NoRule_False⟩
  have xkit_NoShape_NoShape_True : KiT K mg "NoShape" "NoShape" true := ⟨_, _, PySem.W.mg_of X G n_NoShape, PySem.W.mg_of X G n_NoShape, yxkit_NoShape_NoShape_True⟩
  have xkit_NoShape_NoTable_False : KiT K mg "NoShape" "NoTable" false := ⟨_, _, PySem.W.mg_of X G n_NoTable, PySem.W.mg_of X G n_NoShape, yxkit_NoShape_NoTable_False⟩
  have xkit_NoShape_NoText_False : KiT K mg "NoShape" "NoText" false := ⟨_, _, PySem.W.mg_of X G n_NoText, PySem.W.mg_of X G n_NoShape, yxkit_NoShape_NoText_False⟩
  have xkit_NoShape_NothingDone_False : KiT K mg "NoShape" "NothingDone" false := ⟨_, _, PySem.W.mg_of X G n_NothingDone, PySem.W.mg_of X G n_NoShape, yxkit_NoShape_NothingDone_False⟩
  have xkit_NoShape_Nought_False : KiT K mg "NoShape" "Nought" false := ⟨_, _, PySem.W.mg_of X G n_Nought, PySem.W.mg_of X G n_NoShape, yxkit_NoShape_Nought_False⟩
  have xkit_NoShape_TooLong_False : KiT K mg "NoShape" "TooLong" false := ⟨_, _, PySem.W.mg_of X G n_TooLong, PySem.W.mg_of X G n_NoShape, yxkit_NoShape_TooLong_False⟩
  have xkit_NoShape_Unlike_False : KiT K mg "NoShape" "Unlike" false := ⟨_, _, PySem.W.mg_of X G n_Unlike, PySem.W.mg_of X G n_NoShape, yxkit_NoShape_Unlike_False⟩
  have xkit_NoShape_Wrong_False : KiT K mg "NoShape" "Wrong" false := ⟨_, _, PySem.W.mg_of X G n_Wrong, PySem.W.mg_of X G n_NoShape, yxkit_NoShape_Wrong_False⟩
  have xcls_NoRow : ∃ D, mg "NoRow" = some (.ref D) := ⟨_, PySem.W.mg_of X G n_NoRow⟩
  have xkit_NoRow_BadLine_False : KiT K mg "NoRow" "BadLine" false := ⟨_, _, PySem.W.mg_of X G n_BadLine, PySem.W.mg_of X G n_NoRow, yxkit_NoRow_BadLine_False⟩
  have xkit_NoRow_NoDeed_False : KiT K mg "NoRow" "NoDeed" false := ⟨_, _, PySem.W.mg_of X G n_NoDeed, PySem.W.mg_of X G n_NoRow, yxkit_NoRow_NoDeed_False⟩
  have xkit_NoRow_NoFit_False : KiT K mg "NoRow" "NoFit" false := ⟨_, _, PySem.W.mg_of X G n_NoFit, PySem.W.mg_of X G n_NoRow, yxkit_NoRow_NoFit_False⟩
  have xkit_NoRow_NoLine_False : KiT K mg "NoRow" "NoLine" false := ⟨_, _, PySem.W.mg_of X G n_NoLine, PySem.W.mg_of X G n_NoRow, yxkit_NoRow_NoLine_False⟩
  have xkit_NoRow_NoName_False : KiT K mg "NoRow" "NoName" false := ⟨_, _, PySem.W.mg_of X G n_NoName, PySem.W.mg_of X G n_NoRow, yxkit_NoRow_NoName_False⟩
  have xkit_NoRow_NoRow_True : KiT K mg "NoRow" "NoRow" true := ⟨_, _, PySem.W.mg_of X G n_NoRow, PySem.W.mg_of X G n_NoRow, yxkit_NoRow_NoRow_True⟩
  have xkit_NoRow_NoRule_False : KiT K mg "NoRow" "NoRule" false := ⟨_, _, PySem.W.mg_of X G n_NoRule, PySem.W.mg_of X G n_NoRow, yxkit_NoRow_NoRule_False⟩
  have xkit_NoRow_NoShape_False : KiT K mg "NoRow" "NoShape" false := ⟨_, _, PySem.W.mg_of X G n_NoShape, PySem.W.mg_of X G n_NoRow, yxkit_NoRow_NoShape_False⟩
  have xkit_NoRow_NoTable_False : KiT K mg "NoRow" "NoTable" false := ⟨_, _, PySem.W.mg_of X G n_NoTable, PySem.W.mg_of X G n_NoRow, yxkit_NoRow_NoTable_False⟩
  have xkit_NoRow_NoText_False : KiT K mg "NoRow" "NoText" false := ⟨_, _, PySem.W.mg_of X G n_NoText, PySem.W.mg_of X G n_NoRow, yxkit_NoRow_NoText_False⟩
  have xkit_NoRow_NothingDone_False : KiT K mg "NoRow" "NothingDone" false := ⟨_, _, PySem.W.mg_of X G n_NothingDone, PySem.W.mg_of X G n_NoRow, yxkit_NoRow_NothingDone_False⟩
  have xkit_NoRow_Nought_False : KiT K mg "NoRow" "Nought" false := ⟨_, _, PySem.W.mg_of X G n_Nought, PySem.W.mg_of X G n_NoRow, yxkit_NoRow_Nought_False⟩
  have xkit_NoRow_TooLong_False : KiT K mg "NoRow" "TooLong" false := ⟨_, _, PySem.W.mg_of X G n_TooLong, PySem.W.mg_of X G n_NoRow, yxkit_NoRow_TooLong_False⟩
  have xkit_NoRow_Unlike_False : KiT K mg "NoRow" "Unlike" false := ⟨_, _, PySem.W.mg_of X G n_Unlike, PySem.W.mg_of X G n_NoRow, yxkit_NoRow_Unlike_False⟩
  have xkit_NoRow_Wrong_False : KiT K mg "NoRow" "Wrong" false := ⟨_, _, PySem.W.mg_of X G n_Wrong, PySem.W.mg_of X G n_NoRow, yxkit_NoRow_Wrong_False⟩
  have xcls_NoTable : ∃ D, mg "NoTable" = some (.ref D) := ⟨_, PySem.W.mg_of X G n_NoTable⟩
  have xkit_NoTable_BadLine_False : KiT K mg "NoTable" "BadLine" false := ⟨_, _, PySem.W.mg_of X G n_BadLine, PySem.W.mg_of X G n_NoTable, yxkit_NoTable_BadLine_False⟩
  have xkit_NoTable_NoDeed_False : KiT K mg "NoTable" "NoDeed" false := ⟨_, _, PySem.W.mg_of X G n_NoDeed, PySem.W.mg_of X G n_NoTable, yxkit_NoTable_NoDeed_False⟩
  have xkit_NoTable_NoFit_False : KiT K mg "NoTable" "NoFit" false := ⟨_, _, PySem.W.mg_of X G n_NoFit, PySem.W.mg_of X G n_NoTable, yxkit_NoTable_NoFit_False⟩
  have xkit_NoTable_NoLine_False : KiT K mg "NoTable" "NoLine" false := ⟨_, _, PySem.W.mg_of X G n_NoLine, PySem.W.mg_of X G n_NoTable, yxkit_NoTable_NoLine_False⟩
  have xkit_NoTable_NoName_False : KiT K mg "NoTable" "NoName" false := ⟨_, _, PySem.W.mg_of X G n_NoName, PySem.W.mg_of X G n_NoTable, yxkit_NoTable_NoName_False⟩
  have xkit_NoTable_NoRow_False : KiT K mg "NoTable" "NoRow" false := ⟨_, _, PySem.W.mg_of X G n_NoRow, PySem.W.mg_of X G n_NoTable, yxkit_NoTable_NoRow_False⟩
  have xkit_NoTable_NoRule_False : KiT K mg "NoTable" "NoRule" false := ⟨_, _, PySem.W.mg_of X G n_NoRule, PySem.W.mg_of X G n_NoTable, yxkit_NoTable_NoRule_False⟩
  have xkit_NoTable_NoShape_False : KiT K mg "NoTable" "NoShape" false := ⟨_, _, PySem.W.mg_of X G n_NoShape, PySem.W.mg_of X G n_NoTable, yxkit_NoTable_NoShape_False⟩
  have xkit_NoTable_NoTable_True : KiT K mg "NoTable" "NoTable" true := ⟨_, _, PySem.W.mg_of X G n_NoTable, PySem.W.mg_of X G n_NoTable, yxkit_NoTable_NoTable_True⟩
  have xkit_NoTable_NoText_False : KiT K mg "NoTable" "NoText" false := ⟨_, _, PySem.W.mg_of X G n_NoText, PySem.W.mg_of X G n_NoTable, yxkit_NoTable_NoText_False⟩
  have xkit_NoTable_NothingDone_False : KiT K mg "NoTable" "NothingDone" false := ⟨_, _, PySem.W.mg_of X G n_NothingDone, PySem.W.mg_of X G n_NoTable, yxkit_NoTable_NothingDone_False⟩
  have xkit_NoTable_Nought_False : KiT K mg "NoTable" "Nought" false := ⟨_, _, PySem.W.mg_of X G n_Nought, PySem.W.mg_of X G n_NoTable, yxkit_NoTable_Nought_False⟩
  have xkit_NoTable_TooLong_False : KiT K mg "NoTable" "TooLong" false := ⟨_, _, PySem.W.mg_of X G n_TooLong, PySem.W.mg_of X G n_NoTable, yxkit_NoTable_TooLong_False⟩
  have xkit_NoTable_Unlike_False : KiT K mg "NoTable" "Unlike" false := ⟨_, _, PySem.W.mg_of X G n_Unlike, PySem.W.mg_of X G n_NoTable, yxkit_NoTable_Unlike_False⟩
  have xkit_NoTable_Wrong_False : KiT K mg "NoTable" "Wrong" false := ⟨_, _, PySem.W.mg_of X G n_Wrong, PySem.W.mg_of X G n_NoTable, yxkit_NoTable_Wrong_False⟩
  have xcls_TooLong : ∃ D, mg "TooLong" = some (.ref D) := ⟨_, PySem.W.mg_of X G n_TooLong⟩
  have xkit_TooLong_BadLine_False : KiT K mg "TooLong" "BadLine" false := ⟨_, _, PySem.W.mg_of X G n_BadLine, PySem.W.mg_of X G n_TooLong, yxkit_TooLong_BadLine_False⟩
  have xkit_TooLong_NoDeed_False : KiT K mg "TooLong" "NoDeed" false := ⟨_, _, PySem.W.mg_of X G n_NoDeed, PySem.W.mg_of X G n_TooLong, yxkit_TooLong_NoDeed_False⟩
  have xkit_TooLong_NoFit_False : KiT K mg "TooLong" "NoFit" false := ⟨_, _, PySem.W.mg_of X G n_NoFit, PySem.W.mg_of X G n_TooLong, yxkit_TooLong_NoFit_False⟩
  have xkit_TooLong_NoLine_False : KiT K mg "TooLong" "NoLine" false := ⟨_, _, PySem.W.mg_of X G n_NoLine, PySem.W.mg_of X G n_TooLong, yxkit_TooLong_NoLine_False⟩
  have xkit_TooLong_NoName_False : KiT K mg "TooLong" "NoName" false := ⟨_, _, PySem.W.mg_of X G n_NoName, PySem.W.mg_of X G n_TooLong, yxkit_TooLong_NoName_False⟩
  have xkit_TooLong_NoRow_False : KiT K mg "TooLong" "NoRow" false := ⟨_, _, PySem.W.mg_of X G n_NoRow, PySem.W.mg_of X G n_TooLong, yxkit_TooLong_NoRow_False⟩
  have xkit_TooLong_NoRule_False : KiT K mg "TooLong" "NoRule" false := ⟨_, _, PySem.W.mg_of X G n_NoRule, PySem.W.mg_of X G n_TooLong, yxkit_TooLong_NoRule_False⟩
  have xkit_TooLong_NoShape_False : KiT K mg "TooLong" "NoShape" false := ⟨_, _, PySem.W.mg_of X G n_NoShape, PySem.W.mg_of X G n_TooLong, yxkit_TooLong_NoShape_False⟩
  have xkit_TooLong_NoTable_False : KiT K mg "TooLong" "NoTable" false := ⟨_, _, PySem.W.mg_of X G n_NoTable, PySem.W.mg_of X G n_TooLong, yxkit_TooLong_NoTable_False⟩
  have xkit_TooLong_NoText_False : KiT K mg "TooLong" "NoText" false := ⟨_, _, PySem.W.mg_of X G n_NoText, PySem.W.mg_of X G n_TooLong, yxkit_TooLong_NoText_False⟩
  have xkit_TooLong_NothingDone_False : KiT K mg "TooLong" "NothingDone" false := ⟨_, _, PySem.W.mg_of X G n_NothingDone, PySem.W.mg_of X G n_TooLong, yxkit_TooLong_NothingDone_False⟩
  have xkit_TooLong_Nought_False : KiT K mg "TooLong" "Nought" false := ⟨_, _, PySem.W.mg_of X G n_Nought, PySem.W.mg_of X G n_TooLong, yxkit_TooLong_Nought_False⟩
  have xkit_TooLong_TooLong_True : KiT K mg "TooLong" "TooLong" true := ⟨_, _, PySem.W.mg_of X G n_TooLong, PySem.W.mg_of X G n_TooLong, yxkit_TooLong_TooLong_True⟩
  have xkit_TooLong_Unlike_False : KiT K mg "TooLong" "Unlike" false := ⟨_, _, PySem.W.mg_of X G n_Unlike, PySem.W.mg_of X G n_TooLong, yxkit_TooLong_Unlike_False⟩
  have xkit_TooLong_Wrong_False : KiT K mg "TooLong" "Wrong" false := ⟨_, _, PySem.W.mg_of X G n_Wrong, PySem.W.mg_of X G n_TooLong, yxkit_TooLong_Wrong_False⟩
  have xcls_BadLine : ∃ D, mg "BadLine" = some (.ref D) := ⟨_, PySem.W.mg_of X G n_BadLine⟩
  have xkit_BadLine_BadLine_True : KiT K mg "BadLine" "BadLine" true := ⟨_, _, PySem.W.mg_of X G n_BadLine, PySem.W.mg_of X G n_BadLine, yxkit_BadLine_BadLine_True⟩
  have xkit_BadLine_NoDeed_False : KiT K mg "BadLine" "NoDeed" false := ⟨_, _, PySem.W.mg_of X G n_NoDeed, PySem.W.mg_of X G n_BadLine, yxkit_BadLine_NoDeed_False⟩
  have xkit_BadLine_NoFit_False : KiT K mg "BadLine" "NoFit" false := ⟨_, _, PySem.W.mg_of X G n_NoFit, PySem.W.mg_of X G n_BadLine, yxkit_BadLine_NoFit_False⟩
  have xkit_BadLine_NoLine_False : KiT K mg "BadLine" "NoLine" false := ⟨_, _, PySem.W.mg_of X G n_NoLine, PySem.W.mg_of X G n_BadLine, yxkit_BadLine_NoLine_False⟩
  have xkit_BadLine_NoName_False : KiT K mg "BadLine" "NoName" false := ⟨_, _, PySem.W.mg_of X G n_NoName, PySem.W.mg_of X G n_BadLine, yxkit_BadLine_NoName_False⟩
  have xkit_BadLine_NoRow_False : KiT K mg "BadLine" "NoRow" false := ⟨_, _, PySem.W.mg_of X G n_NoRow, PySem.W.mg_of X G n_BadLine, yxkit_BadLine_NoRow_False⟩
  have xkit_BadLine_NoRule_False : KiT K mg "BadLine" "NoRule" false := ⟨_, _, PySem.W.mg_of X G n_NoRule, PySem.W.mg_of X G n_BadLine, yxkit_BadLine_NoRule_False⟩
  have xkit_BadLine_NoShape_False : KiT K mg "BadLine" "NoShape" false := ⟨_, _, PySem.W.mg_of X G n_NoShape, PySem.W.mg_of X G n_BadLine, yxkit_BadLine_NoShape_False⟩
  have xkit_BadLine_NoTable_False : KiT K mg "BadLine" "NoTable" false := ⟨_, _, PySem.W.mg_of X G n_NoTable, PySem.W.mg_of X G n_BadLine, yxkit_BadLine_NoTable_False⟩
  have xkit_BadLine_NoText_False : KiT K mg "BadLine" "NoText" false := ⟨_, _, PySem.W.mg_of X G n_NoText, PySem.W.mg_of X G n_BadLine, yxkit_BadLine_NoText_False⟩
  have xkit_BadLine_NothingDone_False : KiT K mg "BadLine" "NothingDone" false := ⟨_, _, PySem.W.mg_of X G n_NothingDone, PySem.W.mg_of X G n_BadLine, yxkit_BadLine_NothingDone_False⟩
  have xkit_BadLine_Nought_False : KiT K mg "BadLine" "Nought" false := ⟨_, _, PySem.W.mg_of X G n_Nought, PySem.W.mg_of X G n_BadLine, yxkit_BadLine_Nought_False⟩
  have xkit_BadLine_TooLong_False : KiT K mg "BadLine" "TooLong" false := ⟨_, _, PySem.W.mg_of X G n_TooLong, PySem.W.mg_of X G n_BadLine, yxkit_BadLine_TooLong_False⟩
  have xkit_BadLine_Unlike_False : KiT K mg "BadLine" "Unlike" false := ⟨_, _, PySem.W.mg_of X G n_Unlike, PySem.W.mg_of X G n_BadLine, yxkit_BadLine_Unlike_False⟩
  have xkit_BadLine_Wrong_False : KiT K mg "BadLine" "Wrong" false := ⟨_, _, PySem.W.mg_of X G n_Wrong, PySem.W.mg_of X G n_BadLine, yxkit_BadLine_Wrong_False⟩
  have xcls_NoDeed : ∃ D, mg "NoDeed" = some (.ref D) := ⟨_, PySem.W.mg_of X G n_NoDeed⟩
  have xkit_NoDeed_BadLine_False : KiT K mg "NoDeed" "BadLine" false := ⟨_, _, PySem.W.mg_of X G n_BadLine, PySem.W.mg_of X G n_NoDeed, yxkit_NoDeed_BadLine_False⟩
  have xkit_NoDeed_NoDeed_True : KiT K mg "NoDeed" "NoDeed" true := ⟨_, _, PySem.W.mg_of X G n_NoDeed, PySem.W.mg_of X G n_NoDeed, yxkit_NoDeed_NoDeed_True⟩
  have xkit_NoDeed_NoFit_False : KiT K mg "NoDeed" "NoFit" false := ⟨_, _, PySem.W.mg_of X G n_NoFit, PySem.W.mg_of X G n_NoDeed, yxkit_NoDeed_NoFit_False⟩
  have xkit_NoDeed_NoLine_False : KiT K mg "NoDeed" "NoLine" false := ⟨_, _, PySem.W.mg_of X G n_NoLine, PySem.W.mg_of X G n_NoDeed, yxkit_NoDeed_NoLine_False⟩
  have xkit_NoDeed_NoName_False : KiT K mg "NoDeed" "NoName" false := ⟨_, _, PySem.W.mg_of X G n_NoName, PySem.W.mg_of X G n_NoDeed, yxkit_NoDeed_NoName_False⟩
  have xkit_NoDeed_NoRow_False : KiT K mg "NoDeed" "NoRow" false := ⟨_, _, PySem.W.mg_of X G n_NoRow, PySem.W.mg_of X G n_NoDeed, yxkit_NoDeed_NoRow_False⟩
  have xkit_NoDeed_NoRule_False : KiT K mg "NoDeed" "NoRule" false := ⟨_, _, PySem.W.mg_of X G n_NoRule, PySem.W.mg_of X G n_NoDeed, yxkit_NoDeed_NoRule_False⟩
  have xkit_NoDeed_NoShape_False : KiT K mg "NoDeed" "NoShape" false := ⟨_, _, PySem.W.mg_of X G n_NoShape, PySem.W.mg_of X G n_NoDeed, yxkit_NoDeed_NoShape_False⟩
  have xkit_NoDeed_NoTable_False : KiT K mg "NoDeed" "NoTable" false := ⟨_, _, PySem.W.mg_of X G n_NoTable, PySem.W.mg_of X G n_NoDeed, yxkit_NoDeed_NoTable_False⟩
  have xkit_NoDeed_NoText_False : KiT K mg "NoDeed" "NoText" false := ⟨_, _, PySem.W.mg_of X G n_NoText, PySem.W.mg_of X G n_NoDeed, yxkit_NoDeed_NoText_False⟩
  have xkit_NoDeed_NothingDone_False : KiT K mg "NoDeed" "NothingDone" false := ⟨_, _, PySem.W.mg_of X G n_NothingDone, PySem.W.mg_of X G n_NoDeed, yxkit_NoDeed_NothingDone_False⟩
  have xkit_NoDeed_Nought_False : KiT K mg "NoDeed" "Nought" false := ⟨_, _, PySem.W.mg_of X G n_Nought, PySem.W.mg_of X G n_NoDeed, yxkit_NoDeed_Nought_False⟩
  have xkit_NoDeed_TooLong_False : KiT K mg "NoDeed" "TooLong" false := ⟨_, _, PySem.W.mg_of X G n_TooLong, PySem.W.mg_of X G n_NoDeed, yxkit_NoDeed_TooLong_False⟩
  have xkit_NoDeed_Unlike_False : KiT K mg "NoDeed" "Unlike" false := ⟨_, _, PySem.W.mg_of X G n_Unlike, PySem.W.mg_of X G n_NoDeed, yxkit_NoDeed_Unlike_False⟩
  have xkit_NoDeed_Wrong_False : KiT K mg "NoDeed" "Wrong" false := ⟨_, _, PySem.W.mg_of X G n_Wrong, PySem.W.mg_of X G n_NoDeed, yxkit_NoDeed_Wrong_False⟩
  have xcls_NoRule : ∃ D, mg "NoRule" = some (.ref D) := ⟨_, PySem.W.mg_of X G n_NoRule⟩
  have xkit_NoRule_BadLine_False : KiT K mg "NoRule" "BadLine" false := ⟨_, _, PySem.W.mg_of X G n_BadLine, PySem.W.mg_of X G n_NoRule, yxkit_NoRule_BadLine_False⟩
  have xkit_NoRule_NoDeed_False : KiT K mg "NoRule" "NoDeed" false := ⟨_, _, PySem.W.mg_of X G n_NoDeed, PySem.W.mg_of X G n_NoRule, yxkit_NoRule_NoDeed_False⟩
  have xkit_NoRule_NoFit_False : KiT K mg "NoRule" "NoFit" false := ⟨_, _, PySem.W.mg_of X G n_NoFit, PySem.W.mg_of X G n_NoRule, yxkit_NoRule_NoFit_False⟩
  have xkit_NoRule_NoLine_False : KiT K mg "NoRule" "NoLine" false := ⟨_, _, PySem.W.mg_of X G n_NoLine, PySem.W.mg_of X G n_NoRule, yxkit_NoRule_NoLine_False⟩
  have xkit_NoRule_NoName_False : KiT K mg "NoRule" "NoName" false := ⟨_, _, PySem.W.mg_of X G n_NoName, PySem.W.mg_of X G n_NoRule, yxkit_NoRule_NoName_False⟩
  have xkit_NoRule_NoRow_False : KiT K mg "NoRule" "NoRow" false := ⟨_, _, PySem.W.mg_of X G n_NoRow, PySem.W.mg_of X G n_NoRule, yxkit_NoRule_NoRow_False⟩
  have xkit_NoRule_NoRule_True : KiT K mg "NoRule" "NoRule" true := ⟨_, _, PySem.W.mg_of X G n_NoRule, PySem.W.mg_of X G n_NoRule, yxkit_NoRule_NoRule_True⟩
  have xkit_NoRule_NoShape_False : KiT K mg "NoRule" "NoShape" false := ⟨_, _, PySem.W.mg_of X G n_NoShape, PySem.W.mg_of X G n_NoRule, yxkit_NoRule_NoShape_False⟩
  have xkit_NoRule_NoTable_False : KiT K mg "NoRule" "NoTable" false := ⟨_, _, PySem.W.mg_of X G n_NoTable, PySem.W.mg_of X G n_NoRule, yxkit_NoRule_NoTable_False⟩
  have xkit_NoRule_NoText_False : KiT K mg "NoRule" "NoText" false := ⟨_, _, PySem.W.mg_of X G n_NoText, PySem.W.mg_of X G n_NoRule, yxkit_NoRule_NoText_False⟩
  have xkit_NoRule_NothingDone_False : KiT K mg "NoRule" "NothingDone" false := ⟨_, _, PySem.W.mg_of X G n_NothingDone, PySem.W.mg_of X G n_NoRule, yxkit_NoRule_NothingDone_False⟩
  have xkit_NoRule_Nought_False : KiT K mg "NoRule" "Nought" false := ⟨_, _, PySem.W.mg_of X G n_Nought, PySem.W.mg_of X G n_NoRule, yxkit_NoRule_Nought_False⟩
  have xkit_NoRule_TooLong_False : KiT K mg "NoRule" "TooLong" false := ⟨_, _, PySem.W.mg_of X G n_TooLong, PySem.W.mg_of X G n_NoRule, yxkit_NoRule_TooLong_False⟩
  have xkit_NoRule_Unlike_False : KiT K mg "NoRule" "Unlike" false := ⟨_, _, PySem.W.mg_of X G n_Unlike, PySem.W.mg_of X G n_NoRule, yxkit_NoRule_Unlike_False⟩
  have xkit_NoRule_Wrong_False : KiT K mg "NoRule" "Wrong" false := ⟨_, _, PySem.W.mg_of X G n_Wrong, PySem.W.mg_of X G n_NoRule, yxkit_NoRule_Wrong_False⟩
  have xcls_NoText : ∃ D, mg "NoText" = some (.ref D) := ⟨_, PySem.W.mg_of X G n_NoText⟩
  have xkit_NoText_BadLine_False : KiT K mg "NoText" "BadLine" false := ⟨_, _, PySem.W.mg_of X G n_BadLine, PySem.W.mg_of X G n_NoText, yxkit_NoText_BadLine_False⟩
  have xkit_NoText_NoDeed_False : KiT K mg "NoText" "NoDeed" false := ⟨_, _, PySem.W.mg_of X G n_NoDeed, PySem.W.mg_of X G n_NoText, yxkit_NoText_NoDeed_False⟩
  have xkit_NoText_NoFit_False : KiT K mg "NoText" "NoFit" false := ⟨_, _, PySem.W.mg_of X G n_NoFit, PySem.W.mg_of X G n_NoText, yxkit_NoText_NoFit_False⟩
  have xkit_NoText_NoLine_False : KiT K mg "NoText" "NoLine" false := ⟨_, _, PySem.W.mg_of X G n_NoLine, PySem.W.mg_of X G n_NoText, yxkit_NoText_NoLine_False⟩
  have xkit_NoText_NoName_False : KiT K mg "NoText" "NoName" false := ⟨_, _, PySem.W.mg_of X G n_NoName, PySem.W.mg_of X G n_NoText, yxkit_NoText_NoName_False⟩
  have xkit_NoText_NoRow_False : KiT K mg "NoText" "NoRow" false := ⟨_, _, PySem.W.mg_of X G n_NoRow, PySem.W.mg_of X G n_NoText, yxkit_NoText_NoRow_False⟩
  have xkit_NoText_NoRule_False : KiT K mg "NoText" "NoRule" false := ⟨_, _, PySem.W.mg_of X G n_NoRule, PySem.W.mg_of X G n_NoText, yxkit_NoText_NoRule_False⟩
  have xkit_NoText_NoShape_False : KiT K mg "NoText" "NoShape" false := ⟨_, _, PySem.W.mg_of X G n_NoShape, PySem.W.mg_of X G n_NoText, yxkit_NoText_NoShape_False⟩
  have xkit_NoText_NoTable_False : KiT K mg "NoText" "NoTable" false := ⟨_, _, PySem.W.mg_of X G n_NoTable, PySem.W.mg_of X G n_NoText, yxkit_NoText_NoTable_False⟩
  have xkit_NoText_NoText_True : KiT K mg "NoText" "NoText" true := ⟨_, _, PySem.W.mg_of X G n_NoText, PySem.W.mg_of X G n_NoText, yxkit_NoText_NoText_True⟩
  have xkit_NoText_NothingDone_False : KiT K mg "NoText" "NothingDone" false := ⟨_, _, PySem.W.mg_of X G n_NothingDone, PySem.W.mg_of X G n_NoText, yxkit_NoText_NothingDone_False⟩
  have xkit_NoText_Nought_False : KiT K mg "NoText" "Nought" false := ⟨_, _, PySem.W.mg_of X G n_Nought, PySem.W.mg_of X G n_NoText, yxkit_NoText_Nought_False⟩
  have xkit_NoText_TooLong_False : KiT K mg "NoText" "TooLong" false := ⟨_, _, PySem.W.mg_of X G n_TooLong, PySem.W.mg_of X G n_NoText, yxkit_NoText_TooLong_False⟩
  have xkit_NoText_Unlike_False : KiT K mg "NoText" "Unlike" false := ⟨_, _, PySem.W.mg_of X G n_Unlike, PySem.W.mg_of X G n_NoText, yxkit_NoText_Unlike_False⟩
  have xkit_NoText_Wrong_False : KiT K mg "NoText" "Wrong" false := ⟨_, _, PySem.W.mg_of X G n_Wrong, PySem.W.mg_of X G n_NoText, yxkit_NoText_Wrong_False⟩
  have xcls_NoName : ∃ D, mg "NoName" = some (.ref D) := ⟨_, PySem.W.mg_of X G n_NoName⟩
  have xkit_NoName_BadLine_False : KiT K mg "NoName" "BadLine" false := ⟨_, _, PySem.W.mg_of X G n_BadLine, PySem.W.mg_of X G n_NoName, yxkit_NoName_BadLine_False⟩
  have xkit_NoName_NoDeed_False : KiT K mg "NoName" "NoDeed" false := ⟨_, _, PySem.W.mg_of X G n_NoDeed, PySem.W.mg_of X G n_NoName, yxkit_NoName_NoDeed_False⟩
  have xkit_NoName_NoFit_False : KiT K mg "NoName" "NoFit" false := ⟨_, _, PySem.W.mg_of X G n_NoFit, PySem.W.mg_of X G n_NoName, yxkit_NoName_NoFit_False⟩
  have xkit_NoName_NoLine_False : KiT K mg "NoName" "NoLine" false := ⟨_, _, PySem.W.mg_of X G n_NoLine, PySem.W.mg_of X G n_NoName, yxkit_NoName_NoLine_False⟩
  have xkit_NoName_NoName_True : KiT K mg "NoName" "NoName" true := ⟨_, _, PySem.W.mg_of X G n_NoName, PySem.W.mg_of X G n_NoName, yxkit_NoName_NoName_True⟩
  have xkit_NoName_NoRow_False : KiT K mg "NoName" "NoRow" false := ⟨_, _, PySem.W.mg_of X G n_NoRow, PySem.W.mg_of X G n_NoName, yxkit_NoName_NoRow_False⟩
  have xkit_NoName_NoRule_False : KiT K mg "NoName" "NoRule" false := ⟨_, _, PySem.W.mg_of X G n_NoRule, PySem.W.mg_of X G n_NoName, yxkit_NoName_NoRule_False⟩
  have xkit_NoName_NoShape_False : KiT K mg "NoName" "NoShape" false := ⟨_, _, PySem.W.mg_of X G n_NoShape, PySem.W.mg_of X G n_NoName, yxkit_NoName_NoShape_False⟩
  have xkit_NoName_NoTable_False : KiT K mg "NoName" "NoTable" false := ⟨_, _, PySem.W.mg_of X G n_NoTable, PySem.W.mg_of X G n_NoName, yxkit_NoName_NoTable_False⟩
  have xkit_NoName_NoText_False : KiT K mg "NoName" "NoText" false := ⟨_, _, PySem.W.mg_of X G n_NoText, PySem.W.mg_of X G n_NoName, yxkit_NoName_NoText_False⟩
  have xkit_NoName_NothingDone_False : KiT K mg "NoName" "NothingDone" false := ⟨_, _, PySem.W.mg_of X G n_NothingDone, PySem.W.mg_of X G n_NoName, yxkit_NoName_NothingDone_False⟩
  have xkit_NoName_Nought_False : KiT K mg "NoName" "Nought" false := ⟨_, _, PySem.W.mg_of X G n_Nought, PySem.W.mg_of X G n_NoName, yxkit_NoName_Nought_False⟩
  have xkit_NoName_TooLong_False : KiT K mg "NoName" "TooLong" false := ⟨_, _, PySem.W.mg_of X G n_TooLong, PySem.W.mg_of X G n_NoName, yxkit_NoName_TooLong_False⟩
  have xkit_NoName_Unlike_False : KiT K mg "NoName" "Unlike" false := ⟨_, _, PySem.W.mg_of X G n_Unlike, PySem.W.mg_of X G n_NoName, yxkit_NoName_Unlike_False⟩
  have xkit_NoName_Wrong_False : KiT K mg "NoName" "Wrong" false := ⟨_, _, PySem.W.mg_of X G n_Wrong, PySem.W.mg_of X G n_NoName, yxkit_NoName_Wrong_False⟩
  have xcls_Unlike : ∃ D, mg "Unlike" = some (.ref D) := ⟨_, PySem.W.mg_of X G n_Unlike⟩
  have xkit_Unlike_BadLine_False : KiT K mg "Unlike" "BadLine" false := ⟨_, _, PySem.W.mg_of X G n_BadLine, PySem.W.mg_of X G n_Unlike, yxkit_Unlike_BadLine_False⟩
  have xkit_Unlike_NoDeed_False : KiT K mg "Unlike" "NoDeed" false := ⟨_, _, PySem.W.mg_of X G n_NoDeed, PySem.W.mg_of X G n_Unlike, yxkit_Unlike_NoDeed_False⟩
  have xkit_Unlike_NoFit_False : KiT K mg "Unlike" "NoFit" false := ⟨_, _, PySem.W.mg_of X G n_NoFit, PySem.W.mg_of X G n_Unlike, yxkit_Unlike_NoFit_False⟩
  have xkit_Unlike_NoLine_False : KiT K mg "Unlike" "NoLine" false := ⟨_, _, PySem.W.mg_of X G n_NoLine, PySem.W.mg_of X G n_Unlike, yxkit_Unlike_NoLine_False⟩
  have xkit_Unlike_NoName_False : KiT K mg "Unlike" "NoName" false := ⟨_, _, PySem.W.mg_of X G n_NoName, PySem.W.mg_of X G n_Unlike, yxkit_Unlike_NoName_False⟩
  have xkit_Unlike_NoRow_False : KiT K mg "Unlike" "NoRow" false := ⟨_, _, PySem.W.mg_of X G n_NoRow, PySem.W.mg_of X G n_Unlike, yxkit_Unlike_NoRow_False⟩
  have xkit_Unlike_NoRule_False : KiT K mg "Unlike" "NoRule" false := ⟨_, _, PySem.W.mg_of X G n_NoRule, PySem.W.mg_of X G n_Unlike, yxkit_Unlike_NoRule_False⟩
  have xkit_Unlike_NoShape_False : KiT K mg "Unlike" "NoShape" false := ⟨_, _, PySem.W.mg_of X G n_NoShape, PySem.W.mg_of X G n_Unlike, yxkit_Unlike_NoShape_False⟩
  have xkit_Unlike_NoTable_False : KiT K mg "Unlike" "NoTable" false := ⟨_, _, PySem.W.mg_of X G n_NoTable, PySem.W.mg_of X G n_Unlike, yxkit_Unlike_NoTable_False⟩
  have xkit_Unlike_NoText_False : KiT K mg "Unlike" "NoText" false := ⟨_, _, PySem.W.mg_of X G n_NoText, PySem.W.mg_of X G n_Unlike, yxkit_Unlike_NoText_False⟩
  have xkit_Unlike_NothingDone_False : KiT K mg "Unlike" "NothingDone" false := ⟨_, _, PySem.W.mg_of X G n_NothingDone, PySem.W.mg_of X G n_Unlike, yxkit_Unlike_NothingDone_False⟩
  have xkit_Unlike_Nought_False : KiT K mg "Unlike" "Nought" false := ⟨_, _, PySem.W.mg_of X G n_Nought, PySem.W.mg_of X G n_Unlike, yxkit_Unlike_Nought_False⟩
  have xkit_Unlike_TooLong_False : KiT K mg "Unlike" "TooLong" false := ⟨_, _, PySem.W.mg_of X G n_TooLong, PySem.W.mg_of X G n_Unlike, yxkit_Unlike_TooLong_False⟩
  have xkit_Unlike_Unlike_True : KiT K mg "Unlike" "Unlike" true := ⟨_, _, PySem.W.mg_of X G n_Unlike, PySem.W.mg_of X G n_Unlike, yxkit_Unlike_Unlike_True⟩
  have xkit_Unlike_Wrong_False : KiT K mg "Unlike" "Wrong" false := ⟨_, _, PySem.W.mg_of X G n_Wrong, PySem.W.mg_of X G n_Unlike, yxkit_Unlike_Wrong_False⟩
  have xcls_Nought : ∃ D, mg "Nought" = some (.ref D) := ⟨_, PySem.W.mg_of X G n_Nought⟩
  have xkit_Nought_BadLine_False : KiT K mg "Nought" "BadLine" false := ⟨_, _, PySem.W.mg_of X G n_BadLine, PySem.W.mg_of X G n_Nought, yxkit_Nought_BadLine_False⟩
  have xkit_Nought_NoDeed_False : KiT K mg "Nought" "NoDeed" false := ⟨_, _, PySem.W.mg_of X G n_NoDeed, PySem.W.mg_of X G n_Nought, yxkit_Nought_NoDeed_False⟩
  have xkit_Nought_NoFit_False : KiT K mg "Nought" "NoFit" false := ⟨_, _, PySem.W.mg_of X G n_NoFit, PySem.W.mg_of X G n_Nought, yxkit_Nought_NoFit_False⟩
  have xkit_Nought_NoLine_False : KiT K mg "Nought" "NoLine" false := ⟨_, _, PySem.W.mg_of X G n_NoLine, PySem.W.mg_of X G n_Nought, yxkit_Nought_NoLine_False⟩
  have xkit_Nought_NoName_False : KiT K mg "Nought" "NoName" false := ⟨_, _, PySem.W.mg_of X G n_NoName, PySem.W.mg_of X G n_Nought, yxkit_Nought_NoName_False⟩
  have xkit_Nought_NoRow_False : KiT K mg "Nought" "NoRow" false := ⟨_, _, PySem.W.mg_of X G n_NoRow, PySem.W.mg_of X G n_Nought, yxkit_Nought_NoRow_False⟩
  have xkit_Nought_NoRule_False : KiT K mg "Nought" "NoRule" false := ⟨_, _, PySem.W.mg_of X G n_NoRule, PySem.W.mg_of X G n_Nought, yxkit_Nought_NoRule_False⟩
  have xkit_Nought_NoShape_False : KiT K mg "Nought" "NoShape" false := ⟨_, _, PySem.W.mg_of X G n_NoShape, PySem.W.mg_of X G n_Nought, yxkit_Nought_NoShape_False⟩
  have xkit_Nought_NoTable_False : KiT K mg "Nought" "NoTable" false := ⟨_, _, PySem.W.mg_of X G n_NoTable, PySem.W.mg_of X G n_Nought, yxkit_Nought_NoTable_False⟩
  have xkit_Nought_NoText_False : KiT K mg "Nought" "NoText" false := ⟨_, _, PySem.W.mg_of X G n_NoText, PySem.W.mg_of X G n_Nought, yxkit_Nought_NoText_False⟩
  have xkit_Nought_NothingDone_False : KiT K mg "Nought" "NothingDone" false := ⟨_, _, PySem.W.mg_of X G n_NothingDone, PySem.W.mg_of X G n_Nought, yxkit_Nought_NothingDone_False⟩
  have xkit_Nought_Nought_True : KiT K mg "Nought" "Nought" true := ⟨_, _, PySem.W.mg_of X G n_Nought, PySem.W.mg_of X G n_Nought, yxkit_Nought_Nought_True⟩
  have xkit_Nought_TooLong_False : KiT K mg "Nought" "TooLong" false := ⟨_, _, PySem.W.mg_of X G n_TooLong, PySem.W.mg_of X G n_Nought, yxkit_Nought_TooLong_False⟩
  have xkit_Nought_Unlike_False : KiT K mg "Nought" "Unlike" false := ⟨_, _, PySem.W.mg_of X G n_Unlike, PySem.W.mg_of X G n_Nought, yxkit_Nought_Unlike_False⟩
  have xkit_Nought_Wrong_False : KiT K mg "Nought" "Wrong" false := ⟨_, _, PySem.W.mg_of X G n_Wrong, PySem.W.mg_of X G n_Nought, yxkit_Nought_Wrong_False⟩
  have xcls_NothingDone : ∃ D, mg "NothingDone" = some (.ref D) := ⟨_, PySem.W.mg_of X G n_NothingDone⟩
  have xkit_NothingDone_BadLine_False : KiT K mg "NothingDone" "BadLine" false := ⟨_, _, PySem.W.mg_of X G n_BadLine, PySem.W.mg_of X G n_NothingDone, yxkit_NothingDone_BadLine_False⟩
  have xkit_NothingDone_NoDeed_False : KiT K mg "NothingDone" "NoDeed" false := ⟨_, _, PySem.W.mg_of X G n_NoDeed, PySem.W.mg_of X G n_NothingDone, yxkit_NothingDone_NoDeed_False⟩
  have xkit_NothingDone_NoFit_False : KiT K mg "NothingDone" "NoFit" false := ⟨_, _, PySem.W.mg_of X G n_NoFit, PySem.W.mg_of X G n_NothingDone, yxkit_NothingDone_NoFit_False⟩
  have xkit_NothingDone_NoLine_False : KiT K mg "NothingDone" "NoLine" false := ⟨_, _, PySem.W.mg_of X G n_NoLine, PySem.W.mg_of X G n_NothingDone, yxkit_NothingDone_NoLine_False⟩
  have xkit_NothingDone_NoName_False : KiT K mg "NothingDone" "NoName" false := ⟨_, _, PySem.W.mg_of X G n_NoName, PySem.W.mg_of X G n_NothingDone, yxkit_NothingDone_NoName_False⟩
  have xkit_NothingDone_NoRow_False : KiT K mg "NothingDone" "NoRow" false := ⟨_, _, PySem.W.mg_of X G n_NoRow, PySem.W.mg_of X G n_NothingDone, yxkit_NothingDone_NoRow_False⟩
  have xkit_NothingDone_NoRule_False : KiT K mg "NothingDone" "NoRule" false := ⟨_, _, PySem.W.mg_of X G n_NoRule, PySem.W.mg_of X G n_NothingDone, yxkit_NothingDone_NoRule_False⟩
  have xkit_NothingDone_NoShape_False : KiT K mg "NothingDone" "NoShape" false := ⟨_, _, PySem.W.mg_of X G n_NoShape, PySem.W.mg_of X G n_NothingDone, yxkit_NothingDone_NoShape_False⟩
  have xkit_NothingDone_NoTable_False : KiT K mg "NothingDone" "NoTable" false := ⟨_, _, PySem.W.mg_of X G n_NoTable, PySem.W.mg_of X G n_NothingDone, yxkit_NothingDone_NoTable_False⟩
  have xkit_NothingDone_NoText_False : KiT K mg "NothingDone" "NoText" false := ⟨_, _, PySem.W.mg_of X G n_NoText, PySem.W.mg_of X G n_NothingDone, yxkit_NothingDone_NoText_False⟩
  have xkit_NothingDone_NothingDone_True : KiT K mg "NothingDone" "NothingDone" true := ⟨_, _, PySem.W.mg_of X G n_NothingDone, PySem.W.mg_of X G n_NothingDone, yxkit_NothingDone_NothingDone_True⟩
  have xkit_NothingDone_Nought_False : KiT K mg "NothingDone" "Nought" false := ⟨_, _, PySem.W.mg_of X G n_Nought, PySem.W.mg_of X G n_NothingDone, yxkit_NothingDone_Nought_False⟩
  have xkit_NothingDone_TooLong_False : KiT K mg "NothingDone" "TooLong" false := ⟨_, _, PySem.W.mg_of X G n_TooLong, PySem.W.mg_of X G n_NothingDone, yxkit_NothingDone_TooLong_False⟩
  have xkit_NothingDone_Unlike_False : KiT K mg "NothingDone" "Unlike" false := ⟨_, _, PySem.W.mg_of X G n_Unlike, PySem.W.mg_of X G n_NothingDone, yxkit_NothingDone_Unlike_False⟩
  have xkit_NothingDone_Wrong_False : KiT K mg "NothingDone" "Wrong" false := ⟨_, _, PySem.W.mg_of X G n_Wrong, PySem.W.mg_of X G n_NothingDone, yxkit_NothingDone_Wrong_False⟩
  have xcls_NoLine : ∃ D, mg "NoLine" = some (.ref D) := ⟨_, PySem.W.mg_of X G n_NoLine⟩
  have xkit_NoLine_BadLine_False : KiT K mg "NoLine" "BadLine" false := ⟨_, _, PySem.W.mg_of X G n_BadLine, PySem.W.mg_of X G n_NoLine, yxkit_NoLine_BadLine_False⟩
  have xkit_NoLine_NoDeed_False : KiT K mg "NoLine" "NoDeed" false := ⟨_, _, PySem.W.mg_of X G n_NoDeed, PySem.W.mg_of X G n_NoLine, yxkit_NoLine_NoDeed_False⟩
  have xkit_NoLine_NoFit_False : KiT K mg "NoLine" "NoFit" false := ⟨_, _, PySem.W.mg_of X G n_NoFit, PySem.W.mg_of X G n_NoLine, yxkit_NoLine_NoFit_False⟩
  have xkit_NoLine_NoLine_True : KiT K mg "NoLine" "NoLine" true := ⟨_, _, PySem.W.mg_of X G n_NoLine, PySem.W.mg_of X G n_NoLine, yxkit_NoLine_NoLine_True⟩
  have xkit_NoLine_NoName_False : KiT K mg "NoLine" "NoName" false := ⟨_, _, PySem.W.mg_of X G n_NoName, PySem.W.mg_of X G n_NoLine, yxkit_NoLine_NoName_False⟩
  have xkit_NoLine_NoRow_False : KiT K mg "NoLine" "NoRow" false := ⟨_, _, PySem.W.mg_of X G n_NoRow, PySem.W.mg_of X G n_NoLine, yxkit_NoLine_NoRow_False⟩
  have xkit_NoLine_NoRule_False : KiT K mg "NoLine" "NoRule" false := ⟨_, _, PySem.W.mg_of X G n_NoRule, PySem.W.mg_of X G n_NoLine, yxkit_NoLine_NoRule_False⟩
  have xkit_NoLine_NoShape_False : KiT K mg "NoLine" "NoShape" false := ⟨_, _, PySem.W.mg_of X G n_NoShape, PySem.W.mg_of X G n_NoLine, yxkit_NoLine_NoShape_False⟩
  have xkit_NoLine_NoTable_False : KiT K mg "NoLine" "NoTable" false := ⟨_, _, PySem.W.mg_of X G n_NoTable, PySem.W.mg_of X G n_NoLine, yxkit_NoLine_NoTable_False⟩
  have xkit_NoLine_NoText_False : KiT K mg "NoLine" "NoText" false := ⟨_, _, PySem.W.mg_of X G n_NoText, PySem.W.mg_of X G n_NoLine, yxkit_NoLine_NoText_False⟩
  have xkit_NoLine_NothingDone_False : KiT K mg "NoLine" "NothingDone" false := ⟨_, _, PySem.W.mg_of X G n_NothingDone, PySem.W.mg_of X G n_NoLine, yxkit_NoLine_NothingDone_False⟩
  have xkit_NoLine_Nought_False : KiT K mg "NoLine" "Nought" false := ⟨_, _, PySem.W.mg_of X G n_Nought, PySem.W.mg_of X G n_NoLine, yxkit_NoLine_Nought_False⟩
  have xkit_NoLine_TooLong_False : KiT K mg "NoLine" "TooLong" false := ⟨_, _, PySem.W.mg_of X G n_TooLong, PySem.W.mg_of X G n_NoLine, yxkit_NoLine_TooLong_False⟩
  have xkit_NoLine_Unlike_False : KiT K mg "NoLine" "Unlike" false := ⟨_, _, PySem.W.mg_of X G n_Unlike, PySem.W.mg_of X G n_NoLine, yxkit_NoLine_Unlike_False⟩
  have xkit_NoLine_Wrong_False : KiT K mg "NoLine" "Wrong" false := ⟨_, _, PySem.W.mg_of X G n_Wrong, PySem.W.mg_of X G n_NoLine, yxkit_NoLine_Wrong_False⟩
  have xnog_ValueError : mg "ValueError" = none := PySem.W.mg_none_of X G yxnog_ValueError
  have xkib_ValueError_BadLine : KiB K mg "ValueError" "BadLine" := ⟨_, PySem.W.mg_of X G n_BadLine, yxkib_ValueError_BadLine⟩
  have xkib_ValueError_NoDeed : KiB K mg "ValueError" "NoDeed" := ⟨_, PySem.W.mg_of X G n_NoDeed, yxkib_ValueError_NoDeed⟩
  have xkib_ValueError_NoFit : KiB K mg "ValueError" "NoFit" := ⟨_, PySem.W.mg_of X G n_NoFit, yxkib_ValueError_NoFit⟩
  have xkib_ValueError_NoLine : KiB K mg "ValueError" "NoLine" := ⟨_, PySem.W.mg_of X G n_NoLine, yxkib_ValueError_NoLine⟩
  have xkib_ValueError_NoName : KiB K mg "ValueError" "NoName" := ⟨_, PySem.W.mg_of X G n_NoName, yxkib_ValueError_NoName⟩
  have xkib_ValueError_NoRow : KiB K mg "ValueError" "NoRow" := ⟨_, PySem.W.mg_of X G n_NoRow, yxkib_ValueError_NoRow⟩
  have xkib_ValueError_NoRule : KiB K mg "ValueError" "NoRule" := ⟨_, PySem.W.mg_of X G n_NoRule, yxkib_ValueError_NoRule⟩
  have xkib_ValueError_NoShape : KiB K mg "ValueError" "NoShape" := ⟨_, PySem.W.mg_of X G n_NoShape, yxkib_ValueError_NoShape⟩
  have xkib_ValueError_NoTable : KiB K mg "ValueError" "NoTable" := ⟨_, PySem.W.mg_of X G n_NoTable, yxkib_ValueError_NoTable⟩
  have xkib_ValueError_NoText : KiB K mg "ValueError" "NoText" := ⟨_, PySem.W.mg_of X G n_NoText, yxkib_ValueError_NoText⟩
  have xkib_ValueError_NothingDone : KiB K mg "ValueError" "NothingDone" := ⟨_, PySem.W.mg_of X G n_NothingDone, yxkib_ValueError_NothingDone⟩
  have xkib_ValueError_Nought : KiB K mg "ValueError" "Nought" := ⟨_, PySem.W.mg_of X G n_Nought, yxkib_ValueError_Nought⟩
  have xkib_ValueError_TooLong : KiB K mg "ValueError" "TooLong" := ⟨_, PySem.W.mg_of X G n_TooLong, yxkib_ValueError_TooLong⟩
  have xkib_ValueError_Unlike : KiB K mg "ValueError" "Unlike" := ⟨_, PySem.W.mg_of X G n_Unlike, yxkib_ValueError_Unlike⟩
  have xkib_ValueError_Wrong : KiB K mg "ValueError" "Wrong" := ⟨_, PySem.W.mg_of X G n_Wrong, yxkib_ValueError_Wrong⟩
  have xkit_LoftError_BadLine_True : KiT K mg "LoftError" "BadLine" true := ⟨_, _, PySem.W.mg_of X G n_BadLine, PySem.W.mg_of X G n_LoftError, yxkit_LoftError_BadLine_True⟩
  have xkit_LoftError_NoDeed_True : KiT K mg "LoftError" "NoDeed" true := ⟨_, _, PySem.W.mg_of X G n_NoDeed, PySem.W.mg_of X G n_LoftError, yxkit_LoftError_NoDeed_True⟩
  have xkit_LoftError_NoFit_True : KiT K mg "LoftError" "NoFit" true := ⟨_, _, PySem.W.mg_of X G n_NoFit, PySem.W.mg_of X G n_LoftError, yxkit_LoftError_NoFit_True⟩
  have xkit_LoftError_NoLine_True : KiT K mg "LoftError" "NoLine" true := ⟨_, _, PySem.W.mg_of X G n_NoLine, PySem.W.mg_of X G n_LoftError, yxkit_LoftError_NoLine_True⟩
  have xkit_LoftError_NoName_True : KiT K mg "LoftError" "NoName" true := ⟨_, _, PySem.W.mg_of X G n_NoName, PySem.W.mg_of X G n_LoftError, yxkit_LoftError_NoName_True⟩
  have xkit_LoftError_NoRow_True : KiT K mg "LoftError" "NoRow" true := ⟨_, _, PySem.W.mg_of X G n_NoRow, PySem.W.mg_of X G n_LoftError, yxkit_LoftError_NoRow_True⟩
  have xkit_LoftError_NoRule_True : KiT K mg "LoftError" "NoRule" true := ⟨_, _, PySem.W.mg_of X G n_NoRule, PySem.W.mg_of X G n_LoftError, yxkit_LoftError_NoRule_True⟩
  have xkit_LoftError_NoShape_True : KiT K mg "LoftError" "NoShape" true := ⟨_, _, PySem.W.mg_of X G n_NoShape, PySem.W.mg_of X G n_LoftError, yxkit_LoftError_NoShape_True⟩
  have xkit_LoftError_NoTable_True : KiT K mg "LoftError" "NoTable" true := ⟨_, _, PySem.W.mg_of X G n_NoTable, PySem.W.mg_of X G n_LoftError, yxkit_LoftError_NoTable_True⟩
  have xkit_LoftError_NoText_True : KiT K mg "LoftError" "NoText" true := ⟨_, _, PySem.W.mg_of X G n_NoText, PySem.W.mg_of X G n_LoftError, yxkit_LoftError_NoText_True⟩
  have xkit_LoftError_NothingDone_True : KiT K mg "LoftError" "NothingDone" true := ⟨_, _, PySem.W.mg_of X G n_NothingDone, PySem.W.mg_of X G n_LoftError, yxkit_LoftError_NothingDone_True⟩
  have xkit_LoftError_Nought_True : KiT K mg "LoftError" "Nought" true := ⟨_, _, PySem.W.mg_of X G n_Nought, PySem.W.mg_of X G n_LoftError, yxkit_LoftError_Nought_True⟩
  have xkit_LoftError_TooLong_True : KiT K mg "LoftError" "TooLong" true := ⟨_, _, PySem.W.mg_of X G n_TooLong, PySem.W.mg_of X G n_LoftError, yxkit_LoftError_TooLong_True⟩
  have xkit_LoftError_Unlike_True : KiT K mg "LoftError" "Unlike" true := ⟨_, _, PySem.W.mg_of X G n_Unlike, PySem.W.mg_of X G n_LoftError, yxkit_LoftError_Unlike_True⟩
  have xkit_LoftError_Wrong_True : KiT K mg "LoftError" "Wrong" true := ⟨_, _, PySem.W.mg_of X G n_Wrong, PySem.W.mg_of X G n_LoftError, yxkit_LoftError_Wrong_True⟩
  have xxcf_NoShape_part : XcF K mg ["part"] "NoShape" := ⟨_, PySem.W.mg_of X G n_NoShape, yxxcf_NoShape_part⟩
  have xxcf_NoFit_number : XcF K mg ["number"] "NoFit" := ⟨_, PySem.W.mg_of X G n_NoFit, yxxcf_NoFit_number⟩
  have xxcf_TooLong_number : XcF K mg ["number"] "TooLong" := ⟨_, PySem.W.mg_of X G n_TooLong, yxxcf_TooLong_number⟩
  have xxcf_Wrong_why : XcF K mg ["why"] "Wrong" := ⟨_, PySem.W.mg_of X G n_Wrong, yxxcf_Wrong_why⟩
  have xxcf_Wrong_place : XcF K mg ["place"] "Wrong" := ⟨_, PySem.W.mg_of X G n_Wrong, yxxcf_Wrong_place⟩
  have xxcf_BadLine_at : XcF K mg ["at"] "BadLine" := ⟨_, PySem.W.mg_of X G n_BadLine, yxxcf_BadLine_at⟩
  have xxcf_NoRow_at : XcF K mg ["at"] "NoRow" := ⟨_, PySem.W.mg_of X G n_NoRow, yxxcf_NoRow_at⟩
  have xxcf_NoTable_at : XcF K mg ["at"] "NoTable" := ⟨_, PySem.W.mg_of X G n_NoTable, yxxcf_NoTable_at⟩
  have xxcf_NoRule_rule : XcF K mg ["rule"] "NoRule" := ⟨_, PySem.W.mg_of X G n_NoRule, yxxcf_NoRule_rule⟩
  have xxcf_NoDeed_deed : XcF K mg ["deed"] "NoDeed" := ⟨_, PySem.W.mg_of X G n_NoDeed, yxxcf_NoDeed_deed⟩
  have xxcf_NoName_name : XcF K mg ["name"] "NoName" := ⟨_, PySem.W.mg_of X G n_NoName, yxxcf_NoName_name⟩
  have h_lraised : Fd l.prog w K mg base "_law_raised" 4 ["_law_which", "_law_first", "_law_second"] [] f_lraised := ⟨_, _, ok_lraised F0 B   xcl1_NoShape_part xcl1_NoFit_number xcl2_Wrong_place_why xcl1_NoTable_at xcl1_NoRow_at xcl1_BadLine_at xcl1_TooLong_number xcl1_NoRule_rule xcl1_NoDeed_deed xcl1_NoName_name , PySem.W.mg_of X G a0, k0, b0⟩
  have h_lraised_of_text : Fd l.prog w K mg base "_law_raised_of_text" 2 ["_law_which", "_law_text"] [] f_lraised_of_text := ⟨_, _, ok_lraised_of_text F1 B   xcl0_NoText xcl0_Nought xcl0_Unlike xcl0_NoLine xcl0_NothingDone , PySem.W.mg_of X G a1, k1, b1⟩
  have h_lmet : Fd l.prog w K mg base "_law_met" 6 ["_law_which", "_law_first", "_law_second"] [] f_lmet := ⟨_, _, ok_lmet F2 B h_lraised h_lraised_of_text  xext_LoftError_Wrong_True xext_LoftError_Unlike_True xext_LoftError_TooLong_True xext_LoftError_Nought_True xext_LoftError_NothingDone_True xext_LoftError_NoText_True xext_LoftError_NoTable_True xext_LoftError_NoShape_True xext_LoftError_NoRule_True xext_LoftError_NoRow_True xext_LoftError_NoName_True xext_LoftError_NoLine_True xext_LoftError_NoFit_True xext_LoftError_NoDeed_True xext_LoftError_BadLine_True xcls_LoftError xexg_BadLine xexg_NoDeed xexg_NoFit xexg_NoLine xexg_NoName xexg_NoRow xexg_NoRule xexg_NoShape xexg_NoTable xexg_NoText xexg_NothingDone xexg_Nought xexg_TooLong xexg_Unlike xexg_Wrong , PySem.W.mg_of X G a2, k2, b2⟩
  have h_lmixed : Fd l.prog w K mg base "_law_mixed" 2 ["_law_cell_here", "_law_k", "_law_salt"] [] f_lmixed := ⟨_, _, ok_lmixed F3 B    , PySem.W.mg_of X G a3, k3, b3⟩
  have h_ldraws : Fd l.prog w K mg base "_law_draws" 4 ["_law_cell_here", "_law_salt", "_law_widths"] [] f_ldraws := ⟨_, _, ok_ldraws F4 B h_lmixed   , PySem.W.mg_of X G a4, k4, b4⟩
  have h_lthing : Fd l.prog w K mg base "_law_thing" 6 ["_law_cell_here", "_law_salt"] [] f_lthing := ⟨_, _, ok_lthing F5 B h_ldraws   , PySem.W.mg_of X G a5, k5, b5⟩
  have h_ljust : Fd l.prog w K mg base "_law_just" 10 ["_law_found", "_law_due"] [] f_ljust := ⟨_, _, ok_ljust F6 (PySem.W.mg_of X G a6) k6 b6 B     8, PySem.W.mg_of X G a6, k6, b6⟩
  have h_lsorts2 : Fd l.prog w K mg base "_law_sorts" 2 ["_law_e"] [] f_lsorts2 := ⟨_, _, ok_lsorts2 F7 B   xcls_Wrong xexg_BadLine xxcf_BadLine_ xkit_Wrong_BadLine_False xexg_NoDeed xxcf_NoDeed_ xkit_Wrong_NoDeed_False xexg_NoFit xxcf_NoFit_ xkit_Wrong_NoFit_False xexg_NoLine xxcf_NoLine_ xkit_Wrong_NoLine_False xexg_NoName xxcf_NoName_ xkit_Wrong_NoName_False xexg_NoRow xxcf_NoRow_ xkit_Wrong_NoRow_False xexg_NoRule xxcf_NoRule_ xkit_Wrong_NoRule_False xexg_NoShape xxcf_NoShape_ xkit_Wrong_NoShape_False xexg_NoTable xxcf_NoTable_ xkit_Wrong_NoTable_False xexg_NoText xxcf_NoText_ xkit_Wrong_NoText_False xexg_NothingDone xxcf_NothingDone_ xkit_Wrong_NothingDone_False xexg_Nought xxcf_Nought_ xkit_Wrong_Nought_False xexg_TooLong xxcf_TooLong_ xkit_Wrong_TooLong_False xexg_Unlike xxcf_Unlike_ xkit_Wrong_Unlike_False xexg_Wrong xxcf_Wrong_ xkit_Wrong_Wrong_True xcls_NoFit xkit_NoFit_BadLine_False xkit_NoFit_NoDeed_False xkit_NoFit_NoFit_True xkit_NoFit_NoLine_False xkit_NoFit_NoName_False xkit_NoFit_NoRow_False xkit_NoFit_NoRule_False xkit_NoFit_NoShape_False xkit_NoFit_NoTable_False xkit_NoFit_NoText_False xkit_NoFit_NothingDone_False xkit_NoFit_Nought_False xkit_NoFit_TooLong_False xkit_NoFit_Unlike_False xkit_NoFit_Wrong_False xcls_NoShape xkit_NoShape_BadLine_False xkit_NoShape_NoDeed_False xkit_NoShape_NoFit_False xkit_NoShape_NoLine_False xkit_NoShape_NoName_False xkit_NoShape_NoRow_False xkit_NoShape_NoRule_False xkit_NoShape_NoShape_True xkit_NoShape_NoTable_False xkit_NoShape_NoText_False xkit_NoShape_NothingDone_False xkit_NoShape_Nought_False xkit_NoShape_TooLong_False xkit_NoShape_Unlike_False xkit_NoShape_Wrong_False xcls_NoRow xkit_NoRow_BadLine_False xkit_NoRow_NoDeed_False xkit_NoRow_NoFit_False xkit_NoRow_NoLine_False xkit_NoRow_NoName_False xkit_NoRow_NoRow_True xkit_NoRow_NoRule_False xkit_NoRow_NoShape_False xkit_NoRow_NoTable_False xkit_NoRow_NoText_False xkit_NoRow_NothingDone_False xkit_NoRow_Nought_False xkit_NoRow_TooLong_False xkit_NoRow_Unlike_False xkit_NoRow_Wrong_False xcls_NoTable xkit_NoTable_BadLine_False xkit_NoTable_NoDeed_False xkit_NoTable_NoFit_False xkit_NoTable_NoLine_False xkit_NoTable_NoName_False xkit_NoTable_NoRow_False xkit_NoTable_NoRule_False xkit_NoTable_NoShape_False xkit_NoTable_NoTable_True xkit_NoTable_NoText_False xkit_NoTable_NothingDone_False xkit_NoTable_Nought_False xkit_NoTable_TooLong_False xkit_NoTable_Unlike_False xkit_NoTable_Wrong_False xcls_TooLong xkit_TooLong_BadLine_False xkit_TooLong_NoDeed_False xkit_TooLong_NoFit_False xkit_TooLong_NoLine_False xkit_TooLong_NoName_False xkit_TooLong_NoRow_False xkit_TooLong_NoRule_False xkit_TooLong_NoShape_False xkit_TooLong_NoTable_False xkit_TooLong_NoText_False xkit_TooLong_NothingDone_False xkit_TooLong_Nought_False xkit_TooLong_TooLong_True xkit_TooLong_Unlike_False xkit_TooLong_Wrong_False xcls_BadLine xkit_BadLine_BadLine_True xkit_BadLine_NoDeed_False xkit_BadLine_NoFit_False xkit_BadLine_NoLine_False xkit_BadLine_NoName_False xkit_BadLine_NoRow_False xkit_BadLine_NoRule_False xkit_BadLine_NoShape_False xkit_BadLine_NoTable_False xkit_BadLine_NoText_False xkit_BadLine_NothingDone_False xkit_BadLine_Nought_False xkit_BadLine_TooLong_False xkit_BadLine_Unlike_False xkit_BadLine_Wrong_False xcls_NoDeed xkit_NoDeed_BadLine_False xkit_NoDeed_NoDeed_True xkit_NoDeed_NoFit_False xkit_NoDeed_NoLine_False xkit_NoDeed_NoName_False xkit_NoDeed_NoRow_False xkit_NoDeed_NoRule_False xkit_NoDeed_NoShape_False xkit_NoDeed_NoTable_False xkit_NoDeed_NoText_False xkit_NoDeed_NothingDone_False xkit_NoDeed_Nought_False xkit_NoDeed_TooLong_False xkit_NoDeed_Unlike_False xkit_NoDeed_Wrong_False xcls_NoRule xkit_NoRule_BadLine_False xkit_NoRule_NoDeed_False xkit_NoRule_NoFit_False xkit_NoRule_NoLine_False xkit_NoRule_NoName_False xkit_NoRule_NoRow_False xkit_NoRule_NoRule_True xkit_NoRule_NoShape_False xkit_NoRule_NoTable_False xkit_NoRule_NoText_False xkit_NoRule_NothingDone_False xkit_NoRule_Nought_False xkit_NoRule_TooLong_False xkit_NoRule_Unlike_False xkit_NoRule_Wrong_False xcls_NoText xkit_NoText_BadLine_False xkit_NoText_NoDeed_False xkit_NoText_NoFit_False xkit_NoText_NoLine_False xkit_NoText_NoName_False xkit_NoText_NoRow_False xkit_NoText_NoRule_False xkit_NoText_NoShape_False xkit_NoText_NoTable_False xkit_NoText_NoText_True xkit_NoText_NothingDone_False xkit_NoText_Nought_False xkit_NoText_TooLong_False xkit_NoText_Unlike_False xkit_NoText_Wrong_False xcls_NoName xkit_NoName_BadLine_False xkit_NoName_NoDeed_False xkit_NoName_NoFit_False xkit_NoName_NoLine_False xkit_NoName_NoName_True xkit_NoName_NoRow_False xkit_NoName_NoRule_False xkit_NoName_NoShape_False xkit_NoName_NoTable_False xkit_NoName_NoText_False xkit_NoName_NothingDone_False xkit_NoName_Nought_False xkit_NoName_TooLong_False xkit_NoName_Unlike_False xkit_NoName_Wrong_False xcls_Unlike xkit_Unlike_BadLine_False xkit_Unlike_NoDeed_False xkit_Unlike_NoFit_False xkit_Unlike_NoLine_False xkit_Unlike_NoName_False xkit_Unlike_NoRow_False xkit_Unlike_NoRule_False xkit_Unlike_NoShape_False xkit_Unlike_NoTable_False xkit_Unlike_NoText_False xkit_Unlike_NothingDone_False xkit_Unlike_Nought_False xkit_Unlike_TooLong_False xkit_Unlike_Unlike_True xkit_Unlike_Wrong_False xcls_Nought xkit_Nought_BadLine_False xkit_Nought_NoDeed_False xkit_Nought_NoFit_False xkit_Nought_NoLine_False xkit_Nought_NoName_False xkit_Nought_NoRow_False xkit_Nought_NoRule_False xkit_Nought_NoShape_False xkit_Nought_NoTable_False xkit_Nought_NoText_False xkit_Nought_NothingDone_False xkit_Nought_Nought_True xkit_Nought_TooLong_False xkit_Nought_Unlike_False xkit_Nought_Wrong_False xcls_NothingDone xkit_NothingDone_BadLine_False xkit_NothingDone_NoDeed_False xkit_NothingDone_NoFit_False xkit_NothingDone_NoLine_False xkit_NothingDone_NoName_False xkit_NothingDone_NoRow_False xkit_NothingDone_NoRule_False xkit_NothingDone_NoShape_False xkit_NothingDone_NoTable_False xkit_NothingDone_NoText_False xkit_NothingDone_NothingDone_True xkit_NothingDone_Nought_False xkit_NothingDone_TooLong_False xkit_NothingDone_Unlike_False xkit_NothingDone_Wrong_False xcls_NoLine xkit_NoLine_BadLine_False xkit_NoLine_NoDeed_False xkit_NoLine_NoFit_False xkit_NoLine_NoLine_True xkit_NoLine_NoName_False xkit_NoLine_NoRow_False xkit_NoLine_NoRule_False xkit_NoLine_NoShape_False xkit_NoLine_NoTable_False xkit_NoLine_NoText_False xkit_NoLine_NothingDone_False xkit_NoLine_Nought_False xkit_NoLine_TooLong_False xkit_NoLine_Unlike_False xkit_NoLine_Wrong_False xnog_ValueError xkib_ValueError_BadLine xkib_ValueError_NoDeed xkib_ValueError_NoFit xkib_ValueError_NoLine xkib_ValueError_NoName xkib_ValueError_NoRow xkib_ValueError_NoRule xkib_ValueError_NoShape xkib_ValueError_NoTable xkib_ValueError_NoText xkib_ValueError_NothingDone xkib_ValueError_Nought xkib_ValueError_TooLong xkib_ValueError_Unlike xkib_ValueError_Wrong xcls_LoftError xkit_LoftError_BadLine_True xkit_LoftError_NoDeed_True xkit_LoftError_NoFit_True xkit_LoftError_NoLine_True xkit_LoftError_NoName_True xkit_LoftError_NoRow_True xkit_LoftError_NoRule_True xkit_LoftError_NoShape_True xkit_LoftError_NoTable_True xkit_LoftError_NoText_True xkit_LoftError_NothingDone_True xkit_LoftError_Nought_True xkit_LoftError_TooLong_True xkit_LoftError_Unlike_True xkit_LoftError_Wrong_True , PySem.W.mg_of X G a7, k7, b7⟩
  have h_lfields2 : Fd l.prog w K mg base "_law_fields" 2 ["_law_e", "_law_which"] [] f_lfields2 := ⟨_, _, ok_lfields2 F8 B   xexg_NoShape xxcf_NoShape_part xexg_NoFit xexg_TooLong xxcf_NoFit_number xxcf_TooLong_number xexg_Wrong xxcf_Wrong_why xxcf_Wrong_place xexg_BadLine xexg_NoRow xexg_NoTable xxcf_BadLine_at xxcf_NoRow_at xxcf_NoTable_at xexg_NoRule xxcf_NoRule_rule xexg_NoDeed xxcf_NoDeed_deed xexg_NoName xxcf_NoName_name , PySem.W.mg_of X G a8, k8, b8⟩
  have h_lright11 : Fd l.prog w K mg base "_law_right" 12 ["_law_e", "_law_which", "_law_word", "_law_first", "_law_second"] [] f_lright11 := ⟨_, _, ok_lright11 F9 B h_lsorts2 h_ljust h_lfields2   , PySem.W.mg_of X G a9, k9, b9⟩
  have h_lcell : Fd l.prog w K mg base "_law_cell" 2 ["_law_script", "_law_k"] [] f_lcell := ⟨_, _, ok_lcell F10 B    , PySem.W.mg_of X G a10, k10, b10⟩
  exact ok_law142 F11 B h_lthing h_lcell h_lmet h_lright11   
end Tm
open PySem PySem.W PyProof.Rows in
set_option maxRecDepth 100000 in
set_option maxHeartbeats 0 in
theorem PySem.Challenge.cw_tensloft_k98_refusals_made_holds : PySem.Challenge.rw_tensloft_k98_refusals_made.Holds := by
  w_on; o_law; k_head; (case hw => w_witness2)
  k_fill
  refine Tm.walk_law (l := PySem.Challenge.rw_tensloft_k98_refusals_made) (f := Tm.f_law142) (x := "_law_script") (k := 14) rfl rfl ⟨rfl, by decide, by decide⟩ (fun w h Y => PySem.W.kIn_of Y) Tm.law_true ?F
  case F =>
    intro w mg fa h KX G hmg
    refine' Tm.all_mk KX G hmg ?a0 ?l0 ?c0 ?k0 ?a1 ?l1 ?c1 ?k1 ?a2 ?l2 ?c2 ?k2 ?a3 ?l3 ?c3 ?k3 ?a4 ?l4 ?c4 ?k4 ?a5 ?l5 ?c5 ?k5 ?a6 ?l6 ?c6 ?k6 ?a7 ?l7 ?c7 ?k7 ?a8 ?l8 ?c8 ?k8 ?a9 ?l9 ?c9 ?k9 ?a10 ?l10 ?c10 ?k10 ?a11 ?l11 ?c11 ?k11 ?z_len ?z_range ?z_abs ?z_max ?z_min ?z_int ?z_str ?z_tuple ?z_list ?z_all ?z_any ?z_isinstance ?z_divmod ?z_sum ?z_zip ?z_enumerate ?z_reversed ?z_sorted ?z_dict ?z_set ?z_bool ?n_BadLine ?n_LoftError ?n_NoDeed ?n_NoFit ?n_NoLine ?n_NoName ?n_NoRow ?n_NoRule ?n_NoShape ?n_NoTable ?n_NoText ?n_NothingDone ?n_Nought ?n_TooLong ?n_Unlike ?n_Wrong ?b1_LoftError ?b2_LoftError ?b3_LoftError ?l_BadLine ?s_BadLine ?e_BadLine ?t_BadLine ?p_BadLine ?i_BadLine_ ?j_BadLine ?f_BadLine_at ?g_BadLine ?h_BadLine_ ?m_BadLine_ ?l_NoDeed ?s_NoDeed ?e_NoDeed ?t_NoDeed ?p_NoDeed ?i_NoDeed_ ?j_NoDeed ?f_NoDeed_deed ?g_NoDeed ?h_NoDeed_ ?m_NoDeed_ ?l_NoFit ?s_NoFit ?e_NoFit ?t_NoFit ?p_NoFit ?i_NoFit_ ?j_NoFit ?f_NoFit_number ?g_NoFit ?h_NoFit_ ?m_NoFit_ ?l_NoName ?s_NoName ?e_NoName ?t_NoName ?p_NoName ?i_NoName_ ?j_NoName ?f_NoName_name ?g_NoName ?h_NoName_ ?m_NoName_ ?l_NoRow ?s_NoRow ?e_NoRow ?t_NoRow ?p_NoRow ?i_NoRow_ ?j_NoRow ?f_NoRow_at ?g_NoRow ?h_NoRow_ ?m_NoRow_ ?l_NoRule ?s_NoRule ?e_NoRule ?t_NoRule ?p_NoRule ?i_NoRule_ ?j_NoRule ?f_NoRule_rule ?g_NoRule ?h_NoRule_ ?m_NoRule_ ?l_NoShape ?s_NoShape ?e_NoShape ?t_NoShape ?p_NoShape ?i_NoShape_ ?j_NoShape ?f_NoShape_part ?g_NoShape ?h_NoShape_ ?m_NoShape_ ?l_NoTable ?s_NoTable ?e_NoTable ?t_NoTable ?p_NoTable ?i_NoTable_ ?j_NoTable ?f_NoTable_at ?g_NoTable ?h_NoTable_ ?m_NoTable_ ?l_TooLong ?s_TooLong ?e_TooLong ?t_TooLong ?p_TooLong ?i_TooLong_ ?j_TooLong ?f_TooLong_number ?g_TooLong ?h_TooLong_ ?m_TooLong_ ?l_Wrong ?s_Wrong ?e_Wrong ?t_Wrong ?p_Wrong ?i_Wrong_ ?j_Wrong ?f_Wrong_place ?f_Wrong_why ?g_Wrong ?h_Wrong_ ?m_Wrong_ ?yxcl0_NoText1 ?yxcl0_NoText2 ?yxcl0_NoText3 ?yxcl0_NoText4 ?yxcl0_Nought1 ?yxcl0_Nought2 ?yxcl0_Nought3 ?yxcl0_Nought4 ?yxcl0_Unlike1 ?yxcl0_Unlike2 ?yxcl0_Unlike3 ?yxcl0_Unlike4 ?yxcl0_NoLine1 ?yxcl0_NoLine2 ?yxcl0_NoLine3 ?yxcl0_NoLine4 ?yxcl0_NothingDone1 ?yxcl0_NothingDone2 ?yxcl0_NothingDone3 ?yxcl0_NothingDone4 ?yxext_LoftError_Wrong_True ?yxext_LoftError_Unlike_True ?yxext_LoftError_TooLong_True ?yxext_LoftError_Nought_True ?yxext_LoftError_NothingDone_True ?yxext_LoftError_NoText_True ?yxext_LoftError_NoTable_True ?yxext_LoftError_NoShape_True ?yxext_LoftError_NoRule_True ?yxext_LoftError_NoRow_True ?yxext_LoftError_NoName_True ?yxext_LoftError_NoLine_True ?yxext_LoftError_NoFit_True ?yxext_LoftError_NoDeed_True ?yxext_LoftError_BadLine_True ?yxxcf_BadLine_ ?yxkit_Wrong_BadLine_False ?yxxcf_NoDeed_ ?yxkit_Wrong_NoDeed_False ?yxxcf_NoFit_ ?yxkit_Wrong_NoFit_False ?yxxcf_NoLine_ ?yxkit_Wrong_NoLine_False ?yxxcf_NoName_ ?yxkit_Wrong_NoName_False ?yxxcf_NoRow_ ?yxkit_Wrong_NoRow_False ?yxxcf_NoRule_ ?yxkit_Wrong_NoRule_False ?yxxcf_NoShape_ ?yxkit_Wrong_NoShape_False ?yxxcf_NoTable_ ?yxkit_Wrong_NoTable_False ?yxxcf_NoText_ ?yxkit_Wrong_NoText_False ?yxxcf_NothingDone_ ?yxkit_Wrong_NothingDone_False ?yxxcf_Nought_ ?yxkit_Wrong_Nought_False ?yxxcf_TooLong_ ?yxkit_Wrong_TooLong_False ?yxxcf_Unlike_ ?yxkit_Wrong_Unlike_False ?yxxcf_Wrong_ ?yxkit_Wrong_Wrong_True ?yxkit_NoFit_BadLine_False ?yxkit_NoFit_NoDeed_False ?yxkit_NoFit_NoFit_True ?yxkit_NoFit_NoLine_False ?yxkit_NoFit_NoName_False ?yxkit_NoFit_NoRow_False ?yxkit_NoFit_NoRule_False ?yxkit_NoFit_NoShape_False ?yxkit_NoFit_NoTable_False ?yxkit_NoFit_NoText_False ?yxkit_NoFit_NothingDone_False ?yxkit_NoFit_Nought_False ?yxkit_NoFit_TooLong_False ?yxkit_NoFit_Unlike_False ?yxkit_NoFit_Wrong_False ?yxkit_NoShape_BadLine_False ?yxkit_NoShape_NoDeed_False ?yxkit_NoShape_NoFit_False ?yxkit_NoShape_NoLine_False ?yxkit_NoShape_NoName_False ?yxkit_NoShape_NoRow_False ?yxkit_NoShape_NoRule_False ?yxkit_NoShape_NoShape_True ?yxkit_NoShape_NoTable_False ?yxkit_NoShape_NoText_False ?yxkit_NoShape_NothingDone_False ?yxkit_NoShape_Nought_False ?yxkit_NoShape_TooLong_False ?yxkit_NoShape_Unlike_False ?yxkit_NoShape_Wrong_False ?yxkit_NoRow_BadLine_False ?yxkit_NoRow_NoDeed_False ?yxkit_NoRow_NoFit_False ?yxkit_NoRow_NoLine_False ?yxkit_NoRow_NoName_False ?yxkit_NoRow_NoRow_True ?yxkit_NoRow_NoRule_False ?yxkit_NoRow_NoShape_False ?yxkit_NoRow_NoTable_False ?yxkit_NoRow_NoText_False ?yxkit_NoRow_NothingDone_False ?yxkit_NoRow_Nought_False ?yxkit_NoRow_TooLong_False ?yxkit_NoRow_Unlike_False ?yxkit_NoRow_Wrong_False ?yxkit_NoTable_BadLine_False ?yxkit_NoTable_NoDeed_False ?yxkit_NoTable_NoFit_False ?yxkit_NoTable_NoLine_False ?yxkit_NoTable_NoName_False ?yxkit_NoTable_NoRow_False ?yxkit_NoTable_NoRule_False ?yxkit_NoTable_NoShape_False ?yxkit_NoTable_NoTable_True ?yxkit_NoTable_NoText_False ?yxkit_NoTable_NothingDone_False ?yxkit_NoTable_Nought_False ?yxkit_NoTable_TooLong_False ?yxkit_NoTable_Unlike_False ?yxkit_NoTable_Wrong_False ?yxkit_TooLong_BadLine_False ?yxkit_TooLong_NoDeed_False ?yxkit_TooLong_NoFit_False ?yxkit_TooLong_NoLine_False ?yxkit_TooLong_NoName_False ?yxkit_TooLong_NoRow_False ?yxkit_TooLong_NoRule_False ?yxkit_TooLong_NoShape_False ?yxkit_TooLong_NoTable_False ?yxkit_TooLong_NoText_False ?yxkit_TooLong_NothingDone_False ?yxkit_TooLong_Nought_False ?yxkit_TooLong_TooLong_True ?yxkit_TooLong_Unlike_False ?yxkit_TooLong_Wrong_False ?yxkit_BadLine_BadLine_True ?yxkit_BadLine_NoDeed_False ?yxkit_BadLine_NoFit_False ?yxkit_BadLine_NoLine_False ?yxkit_BadLine_NoName_False ?yxkit_BadLine_NoRow_False ?yxkit_BadLine_NoRule_False ?yxkit_BadLine_NoShape_False ?yxkit_BadLine_NoTable_False ?yxkit_BadLine_NoText_False ?yxkit_BadLine_NothingDone_False ?yxkit_BadLine_Nought_False ?yxkit_BadLine_TooLong_False ?yxkit_BadLine_Unlike_False ?yxkit_BadLine_Wrong_False ?yxkit_NoDeed_BadLine_False ?yxkit_NoDeed_NoDeed_True ?yxkit_NoDeed_NoFit_False ?yxkit_NoDeed_NoLine_False ?yxkit_NoDeed_NoName_False ?yxkit_NoDeed_NoRow_False ?yxkit_NoDeed_NoRule_False ?yxkit_NoDeed_NoShape_False ?yxkit_NoDeed_NoTable_False ?yxkit_NoDeed_NoText_False ?yxkit_NoDeed_NothingDone_False ?yxkit_NoDeed_Nought_False ?yxkit_NoDeed_TooLong_False ?yxkit_NoDeed_Unlike_False ?yxkit_NoDeed_Wrong_False ?yxkit_NoRule_BadLine_False ?yxkit_NoRule_NoDeed_False ?yxkit_NoRule_NoFit_False ?yxkit_NoRule_NoLine_False ?yxkit_NoRule_NoName_False ?yxkit_NoRule_NoRow_False ?yxkit_NoRule_NoRule_True ?yxkit_NoRule_NoShape_False ?yxkit_NoRule_NoTable_False ?yxkit_NoRule_NoText_False ?yxkit_NoRule_NothingDone_False ?yxkit_NoRule_Nought_False ?yxkit_NoRule_TooLong_False ?yxkit_NoRule_Unlike_False ?yxkit_NoRule_Wrong_False ?yxkit_NoText_BadLine_False ?yxkit_NoText_NoDeed_False ?yxkit_NoText_NoFit_False ?yxkit_NoText_NoLine_False ?yxkit_NoText_NoName_False ?yxkit_NoText_NoRow_False ?yxkit_NoText_NoRule_False ?yxkit_NoText_NoShape_False ?yxkit_NoText_NoTable_False ?yxkit_NoText_NoText_True ?yxkit_NoText_NothingDone_False ?yxkit_NoText_Nought_False ?yxkit_NoText_TooLong_False ?yxkit_NoText_Unlike_False ?yxkit_NoText_Wrong_False ?yxkit_NoName_BadLine_False ?yxkit_NoName_NoDeed_False ?yxkit_NoName_NoFit_False ?yxkit_NoName_NoLine_False ?yxkit_NoName_NoName_True ?yxkit_NoName_NoRow_False ?yxkit_NoName_NoRule_False ?yxkit_NoName_NoShape_False ?yxkit_NoName_NoTable_False ?yxkit_NoName_NoText_False ?yxkit_NoName_NothingDone_False ?yxkit_NoName_Nought_False ?yxkit_NoName_TooLong_False ?yxkit_NoName_Unlike_False ?yxkit_NoName_Wrong_False ?yxkit_Unlike_BadLine_False ?yxkit_Unlike_NoDeed_False ?yxkit_Unlike_NoFit_False ?yxkit_Unlike_NoLine_False ?yxkit_Unlike_NoName_False ?yxkit_Unlike_NoRow_False ?yxkit_Unlike_NoRule_False ?yxkit_Unlike_NoShape_False ?yxkit_Unlike_NoTable_False ?yxkit_Unlike_NoText_False ?yxkit_Unlike_NothingDone_False ?yxkit_Unlike_Nought_False ?yxkit_Unlike_TooLong_False ?yxkit_Unlike_Unlike_True ?yxkit_Unlike_Wrong_False ?yxkit_Nought_BadLine_False ?yxkit_Nought_NoDeed_False ?yxkit_Nought_NoFit_False ?yxkit_Nought_NoLine_False ?yxkit_Nought_NoName_False ?yxkit_Nought_NoRow_False ?yxkit_Nought_NoRule_False ?yxkit_Nought_NoShape_False ?yxkit_Nought_NoTable_False ?yxkit_Nought_NoText_False ?yxkit_Nought_NothingDone_False ?yxkit_Nought_Nought_True ?yxkit_Nought_TooLong_False ?yxkit_Nought_Unlike_False ?yxkit_Nought_Wrong_False ?yxkit_NothingDone_BadLine_False ?yxkit_NothingDone_NoDeed_False ?yxkit_NothingDone_NoFit_False ?yxkit_NothingDone_NoLine_False ?yxkit_NothingDone_NoName_False ?yxkit_NothingDone_NoRow_False ?yxkit_NothingDone_NoRule_False ?yxkit_NothingDone_NoShape_False ?yxkit_NothingDone_NoTable_False ?yxkit_NothingDone_NoText_False ?yxkit_NothingDone_NothingDone_True ?yxkit_NothingDone_Nought_False ?yxkit_NothingDone_TooLong_False ?yxkit_NothingDone_Unlike_False ?yxkit_NothingDone_Wrong_False ?yxkit_NoLine_BadLine_False ?yxkit_NoLine_NoDeed_False ?yxkit_NoLine_NoFit_False ?yxkit_NoLine_NoLine_True ?yxkit_NoLine_NoName_False ?yxkit_NoLine_NoRow_False ?yxkit_NoLine_NoRule_False ?yxkit_NoLine_NoShape_False ?yxkit_NoLine_NoTable_False ?yxkit_NoLine_NoText_False ?yxkit_NoLine_NothingDone_False ?yxkit_NoLine_Nought_False ?yxkit_NoLine_TooLong_False ?yxkit_NoLine_Unlike_False ?yxkit_NoLine_Wrong_False ?yxnog_ValueError ?yxkib_ValueError_BadLine ?yxkib_ValueError_NoDeed ?yxkib_ValueError_NoFit ?yxkib_ValueError_NoLine ?yxkib_ValueError_NoName ?yxkib_ValueError_NoRow ?yxkib_ValueError_NoRule ?yxkib_ValueError_NoShape ?yxkib_ValueError_NoTable ?yxkib_ValueError_NoText ?yxkib_ValueError_NothingDone ?yxkib_ValueError_Nought ?yxkib_ValueError_TooLong ?yxkib_ValueError_Unlike ?yxkib_ValueError_Wrong ?yxkit_LoftError_BadLine_True ?yxkit_LoftError_NoDeed_True ?yxkit_LoftError_NoFit_True ?yxkit_LoftError_NoLine_True ?yxkit_LoftError_NoName_True ?yxkit_LoftError_NoRow_True ?yxkit_LoftError_NoRule_True ?yxkit_LoftError_NoShape_True ?yxkit_LoftError_NoTable_True ?yxkit_LoftError_NoText_True ?yxkit_LoftError_NothingDone_True ?yxkit_LoftError_Nought_True ?yxkit_LoftError_TooLong_True ?yxkit_LoftError_Unlike_True ?yxkit_LoftError_Wrong_True ?yxxcf_NoShape_part ?yxxcf_NoFit_number ?yxxcf_TooLong_number ?yxxcf_Wrong_why ?yxxcf_Wrong_place ?yxxcf_BadLine_at ?yxxcf_NoRow_at ?yxxcf_NoTable_at ?yxxcf_NoRule_rule ?yxxcf_NoDeed_deed ?yxxcf_NoName_name
    (case a0 => k_is)
    (case l0 => k_is)
    (case c0 => k_is)
    (case k0 => k_is)
    (case a1 => k_is)
    (case l1 => k_is)
    (case c1 => k_is)
    (case k1 => k_is)
    (case a2 => k_is)
    (case l2 => k_is)
    (case c2 => k_is)
    (case k2 => k_is)
    (case a3 => k_is)
    (case l3 => k_is)
    (case c3 => k_is)
    (case k3 => k_is)
    (case a4 => k_is)
    (case l4 => k_is)
    (case c4 => k_is)
    (case k4 => k_is)
    (case a5 => k_is)
    (case l5 => k_is)
    (case c5 => k_is)
    (case k5 => k_is)
    (case a6 => k_is)
    (case l6 => k_is)
    (case c6 => k_is)
    (case k6 => k_is)
    (case a7 => k_is)
    (case l7 => k_is)
    (case c7 => k_is)
    (case k7 => k_is)
    (case a8 => k_is)
    (case l8 => k_is)
    (case c8 => k_is)
    (case k8 => k_is)
    (case a9 => k_is)
    (case l9 => k_is)
    (case c9 => k_is)
    (case k9 => k_is)
    (case a10 => k_is)
    (case l10 => k_is)
    (case c10 => k_is)
    (case k10 => k_is)
    (case a11 => k_is)
    (case l11 => k_is)
    (case c11 => k_is)
    (case k11 => k_is)
    (case z_len => k_is)
    (case z_range => k_is)
    (case z_abs => k_is)
    (case z_max => k_is)
    (case z_min => k_is)
    (case z_int => k_is)
    (case z_str => k_is)
    (case z_tuple => k_is)
    (case z_list => k_is)
    (case z_all => k_is)
    (case z_any => k_is)
    (case z_isinstance => k_is)
    (case z_divmod => k_is)
    (case z_sum => k_is)
    (case z_zip => k_is)
    (case z_enumerate => k_is)
    (case z_reversed => k_is)
    (case z_sorted => k_is)
    (case z_dict => k_is)
    (case z_set => k_is)
    (case z_bool => k_is)
    (case n_BadLine => k_is)
    (case n_LoftError => k_is)
    (case n_NoDeed => k_is)
    (case n_NoFit => k_is)
    (case n_NoLine => k_is)
    (case n_NoName => k_is)
    (case n_NoRow => k_is)
    (case n_NoRule => k_is)
    (case n_NoShape => k_is)
    (case n_NoTable => k_is)
    (case n_NoText => k_is)
    (case n_NothingDone => k_is)
    (case n_Nought => k_is)
    (case n_TooLong => k_is)
    (case n_Unlike => k_is)
    (case n_Wrong => k_is)
    (case b1_LoftError => k_is)
    (case b2_LoftError => k_is)
    (case b3_LoftError => k_is)
    (case l_BadLine => k_is)
    (case s_BadLine => k_is)
    (case e_BadLine => k_is)
    (case t_BadLine => k_is)
    (case p_BadLine => k_is)
    (case i_BadLine_ => k_is)
    (case j_BadLine => k_is)
    (case f_BadLine_at => k_is)
    (case g_BadLine => k_is)
    (case h_BadLine_ => k_is)
    (case m_BadLine_ => k_is)
    (case l_NoDeed => k_is)
    (case s_NoDeed => k_is)
    (case e_NoDeed => k_is)
    (case t_NoDeed => k_is)
    (case p_NoDeed => k_is)
    (case i_NoDeed_ => k_is)
    (case j_NoDeed => k_is)
    (case f_NoDeed_deed => k_is)
    (case g_NoDeed => k_is)
    (case h_NoDeed_ => k_is)
    (case m_NoDeed_ => k_is)
    (case l_NoFit => k_is)
    (case s_NoFit => k_is)
    (case e_NoFit => k_is)
    (case t_NoFit => k_is)
    (case p_NoFit => k_is)
    (case i_NoFit_ => k_is)
    (case j_NoFit => k_is)
    (case f_NoFit_number => k_is)
    (case g_NoFit => k_is)
    (case h_NoFit_ => k_is)
    (case m_NoFit_ => k_is)
    (case l_NoName => k_is)
    (case s_NoName => k_is)
    (case e_NoName => k_is)
    (case t_NoName => k_is)
    (case p_NoName => k_is)
    (case i_NoName_ => k_is)
    (case j_NoName => k_is)
    (case f_NoName_name => k_is)
    (case g_NoName => k_is)
    (case h_NoName_ => k_is)
    (case m_NoName_ => k_is)
    (case l_NoRow => k_is)
    (case s_NoRow => k_is)
    (case e_NoRow => k_is)
    (case t_NoRow => k_is)
    (case p_NoRow => k_is)
    (case i_NoRow_ => k_is)
    (case j_NoRow => k_is)
    (case f_NoRow_at => k_is)
    (case g_NoRow => k_is)
    (case h_NoRow_ => k_is)
    (case m_NoRow_ => k_is)
    (case l_NoRule => k_is)
    (case s_NoRule => k_is)
    (case e_NoRule => k_is)
    (case t_NoRule => k_is)
    (case p_NoRule => k_is)
    (case i_NoRule_ => k_is)
    (case j_NoRule => k_is)
    (case f_NoRule_rule => k_is)
    (case g_NoRule => k_is)
    (case h_NoRule_ => k_is)
    (case m_NoRule_ => k_is)
    (case l_NoShape => k_is)
    (case s_NoShape => k_is)
    (case e_NoShape => k_is)
    (case t_NoShape => k_is)
    (case p_NoShape => k_is)
    (case i_NoShape_ => k_is)
    (case j_NoShape => k_is)
    (case f_NoShape_part => k_is)
    (case g_NoShape => k_is)
    (case h_NoShape_ => k_is)
    (case m_NoShape_ => k_is)
    (case l_NoTable => k_is)
    (case s_NoTable => k_is)
    (case e_NoTable => k_is)
    (case t_NoTable => k_is)
    (case p_NoTable => k_is)
    (case i_NoTable_ => k_is)
    (case j_NoTable => k_is)
    (case f_NoTable_at => k_is)
    (case g_NoTable => k_is)
    (case h_NoTable_ => k_is)
    (case m_NoTable_ => k_is)
    (case l_TooLong => k_is)
    (case s_TooLong => k_is)
    (case e_TooLong => k_is)
    (case t_TooLong => k_is)
    (case p_TooLong => k_is)
    (case i_TooLong_ => k_is)
    (case j_TooLong => k_is)
    (case f_TooLong_number => k_is)
    (case g_TooLong => k_is)
    (case h_TooLong_ => k_is)
    (case m_TooLong_ => k_is)
    (case l_Wrong => k_is)
    (case s_Wrong => k_is)
    (case e_Wrong => k_is)
    (case t_Wrong => k_is)
    (case p_Wrong => k_is)
    (case i_Wrong_ => k_is)
    (case j_Wrong => k_is)
    (case f_Wrong_place => k_is)
    (case f_Wrong_why => k_is)
    (case g_Wrong => k_is)
    (case h_Wrong_ => k_is)
    (case m_Wrong_ => k_is)
    (case yxcl0_NoText1 => k_exc)
    (case yxcl0_NoText2 => k_is)
    (case yxcl0_NoText3 => k_is)
    (case yxcl0_NoText4 => k_is)
    (case yxcl0_Nought1 => k_exc)
    (case yxcl0_Nought2 => k_is)
    (case yxcl0_Nought3 => k_is)
    (case yxcl0_Nought4 => k_is)
    (case yxcl0_Unlike1 => k_exc)
    (case yxcl0_Unlike2 => k_is)
    (case yxcl0_Unlike3 => k_is)
    (case yxcl0_Unlike4 => k_is)
    (case yxcl0_NoLine1 => k_exc)
    (case yxcl0_NoLine2 => k_is)
    (case yxcl0_NoLine3 => k_is)
    (case yxcl0_NoLine4 => k_is)
    (case yxcl0_NothingDone1 => k_exc)
    (case yxcl0_NothingDone2 => k_is)
    (case yxcl0_NothingDone3 => k_is)
    (case yxcl0_NothingDone4 => k_is)
    (case yxnog_ValueError => k_is)
    (case yxext_LoftError_Wrong_True => first | rfl | decide +kernel)
    (case yxext_LoftError_Unlike_True => first | rfl | decide +kernel)
    (case yxext_LoftError_TooLong_True => first | rfl | decide +kernel)
    (case yxext_LoftError_Nought_True => first | rfl | decide +kernel)
    (case yxext_LoftError_NothingDone_True => first | rfl | decide +kernel)
    (case yxext_LoftError_NoText_True => first | rfl | decide +kernel)
    (case yxext_LoftError_NoTable_True => first | rfl | decide +kernel)
    (case yxext_LoftError_NoShape_True => first | rfl | decide +kernel)
    (case yxext_LoftError_NoRule_True => first | rfl | decide +kernel)
    (case yxext_LoftError_NoRow_True => first | rfl | decide +kernel)
    (case yxext_LoftError_NoName_True => first | rfl | decide +kernel)
    (case yxext_LoftError_NoLine_True => first | rfl | decide +kernel)
    (case yxext_LoftError_NoFit_True => first | rfl | decide +kernel)
    (case yxext_LoftError_NoDeed_True => first | rfl | decide +kernel)
    (case yxext_LoftError_BadLine_True => first | rfl | decide +kernel)
    (case yxxcf_BadLine_ => first | rfl | decide +kernel)
    (case yxkit_Wrong_BadLine_False => first | rfl | decide +kernel)
    (case yxxcf_NoDeed_ => first | rfl | decide +kernel)
    (case yxkit_Wrong_NoDeed_False => first | rfl | decide +kernel)
    (case yxxcf_NoFit_ => first | rfl | decide +kernel)
    (case yxkit_Wrong_NoFit_False => first | rfl | decide +kernel)
    (case yxxcf_NoLine_ => first | rfl | decide +kernel)
    (case yxkit_Wrong_NoLine_False => first | rfl | decide +kernel)
    (case yxxcf_NoName_ => first | rfl | decide +kernel)
    (case yxkit_Wrong_NoName_False => first | rfl | decide +kernel)
    (case yxxcf_NoRow_ => first | rfl | decide +kernel)
    (case yxkit_Wrong_NoRow_False => first | rfl | decide +kernel)
    (case yxxcf_NoRule_ => first | rfl | decide +kernel)
    (case yxkit_Wrong_NoRule_False => first | rfl | decide +kernel)
    (case yxxcf_NoShape_ => first | rfl | decide +kernel)
    (case yxkit_Wrong_NoShape_False => first | rfl | decide +kernel)
    (case yxxcf_NoTable_ => first | rfl | decide +kernel)
    (case yxkit_Wrong_NoTable_False => first | rfl | decide +kernel)
    (case yxxcf_NoText_ => first | rfl | decide +kernel)
    (case yxkit_Wrong_NoText_False => first | rfl | decide +kernel)
    (case yxxcf_NothingDone_ => first | rfl | decide +kernel)
    (case yxkit_Wrong_NothingDone_False => first | rfl | decide +kernel)
    (case yxxcf_Nought_ => first | rfl | decide +kernel)
    (case yxkit_Wrong_Nought_False => first | rfl | decide +kernel)
    (case yxxcf_TooLong_ => first | rfl | decide +kernel)
    (case yxkit_Wrong_TooLong_False => first | rfl | decide +kernel)
    (case yxxcf_Unlike_ => first | rfl | decide +kernel)
    (case yxkit_Wrong_Unlike_False => first | rfl | decide +kernel)
    (case yxxcf_Wrong_ => first | rfl | decide +kernel)
    (case yxkit_Wrong_Wrong_True => first | rfl | decide +kernel)
    (case yxkit_NoFit_BadLine_False => first | rfl | decide +kernel)
    (case yxkit_NoFit_NoDeed_False => first | rfl | decide +kernel)
    (case yxkit_NoFit_NoFit_True => first | rfl | decide +kernel)
    (case yxkit_NoFit_NoLine_False => first | rfl | decide +kernel)
    (case yxkit_NoFit_NoName_False => first | rfl | decide +kernel)
    (case yxkit_NoFit_NoRow_False => first | rfl | decide +kernel)
    (case yxkit_NoFit_NoRule_False => first | rfl | decide +kernel)
    (case yxkit_NoFit_NoShape_False => first | rfl | decide +kernel)
    (case yxkit_NoFit_NoTable_False => first | rfl | decide +kernel)
    (case yxkit_NoFit_NoText_False => first | rfl | decide +kernel)
    (case yxkit_NoFit_NothingDone_False => first | rfl | decide +kernel)
    (case yxkit_NoFit_Nought_False => first | rfl | decide +kernel)
    (case yxkit_NoFit_TooLong_False => first | rfl | decide +kernel)
    (case yxkit_NoFit_Unlike_False => first | rfl | decide +kernel)
    (case yxkit_NoFit_Wrong_False => first | rfl | decide +kernel)
    (case yxkit_NoShape_BadLine_False => first | rfl | decide +kernel)
    (case yxkit_NoShape_NoDeed_False => first | rfl | decide +kernel)
    (case yxkit_NoShape_NoFit_False => first | rfl | decide +kernel)
    (case yxkit_NoShape_NoLine_False => first | rfl | decide +kernel)
    (case yxkit_NoShape_NoName_False => first | rfl | decide +kernel)
    (case yxkit_NoShape_NoRow_False => first | rfl | decide +kernel)
    (case yxkit_NoShape_NoRule_False => first | rfl | decide +kernel)
    (case yxkit_NoShape_NoShape_True => first | rfl | decide +kernel)
    (case yxkit_NoShape_NoTable_False => first | rfl | decide +kernel)
    (case yxkit_NoShape_NoText_False => first | rfl | decide +kernel)
    (case yxkit_NoShape_NothingDone_False => first | rfl | decide +kernel)
    (case yxkit_NoShape_Nought_False => first | rfl | decide +kernel)
    (case yxkit_NoShape_TooLong_False => first | rfl | decide +kernel)
    (case yxkit_NoShape_Unlike_False => first | rfl | decide +kernel)
    (case yxkit_NoShape_Wrong_False => first | rfl | decide +kernel)
    (case yxkit_NoRow_BadLine_False => first | rfl | decide +kernel)
    (case yxkit_NoRow_NoDeed_False => first | rfl | decide +kernel)
    (case yxkit_NoRow_NoFit_False => first | rfl | decide +kernel)
    (case yxkit_NoRow_NoLine_False => first | rfl | decide +kernel)
    (case yxkit_NoRow_NoName_False => first | rfl | decide +kernel)
    (case yxkit_NoRow_NoRow_True => first | rfl | decide +kernel)
    (case yxkit_NoRow_NoRule_False => first | rfl | decide +kernel)
    (case yxkit_NoRow_NoShape_False => first | rfl | decide +kernel)
    (case yxkit_NoRow_NoTable_False => first | rfl | decide +kernel)
    (case yxkit_NoRow_NoText_False => first | rfl | decide +kernel)
    (case yxkit_NoRow_NothingDone_False => first | rfl | decide +kernel)
    (case yxkit_NoRow_Nought_False => first | rfl | decide +kernel)
    (case yxkit_NoRow_TooLong_False => first | rfl | decide +kernel)
    (case yxkit_NoRow_Unlike_False => first | rfl | decide +kernel)
    (case yxkit_NoRow_Wrong_False => first | rfl | decide +kernel)
    (case yxkit_NoTable_BadLine_False => first | rfl | decide +kernel)
    (case yxkit_NoTable_NoDeed_False => first | rfl | decide +kernel)
    (case yxkit_NoTable_NoFit_False => first | rfl | decide +kernel)
    (case yxkit_NoTable_NoLine_False => first | rfl | decide +kernel)
    (case yxkit_NoTable_NoName_False => first | rfl | decide +kernel)
    (case yxkit_NoTable_NoRow_False => first | rfl | decide +kernel)
    (case yxkit_NoTable_NoRule_False => first | rfl | decide +kernel)
    (case yxkit_NoTable_NoShape_False => first | rfl | decide +kernel)
    (case yxkit_NoTable_NoTable_True => first | rfl | decide +kernel)
    (case yxkit_NoTable_NoText_False => first | rfl | decide +kernel)
    (case yxkit_NoTable_NothingDone_False => first | rfl | decide +kernel)
    (case yxkit_NoTable_Nought_False => first | rfl | decide +kernel)
    (case yxkit_NoTable_TooLong_False => first | rfl | decide +kernel)
    (case yxkit_NoTable_Unlike_False => first | rfl | decide +kernel)
    (case yxkit_NoTable_Wrong_False => first | rfl | decide +kernel)
    (case yxkit_TooLong_BadLine_False => first | rfl | decide +kernel)
    (case yxkit_TooLong_NoDeed_False => first | rfl | decide +kernel)
    (case yxkit_TooLong_NoFit_False => first | rfl | decide +kernel)
    (case yxkit_TooLong_NoLine_False => first | rfl | decide +kernel)
    (case yxkit_TooLong_NoName_False => first | rfl | decide +kernel)
    (case yxkit_TooLong_NoRow_False => first | rfl | decide +kernel)
    (case yxkit_TooLong_NoRule_False => first | rfl | decide +kernel)
    (case yxkit_TooLong_NoShape_False => first | rfl | decide +kernel)
    (case yxkit_TooLong_NoTable_False => first | rfl | decide +kernel)
    (case yxkit_TooLong_NoText_False => first | rfl | decide +kernel)
    (case yxkit_TooLong_NothingDone_False => first | rfl | decide +kernel)
    (case yxkit_TooLong_Nought_False => first | rfl | decide +kernel)
    (case yxkit_TooLong_TooLong_True => first | rfl | decide +kernel)
    (case yxkit_TooLong_Unlike_False => first | rfl | decide +kernel)
    (case yxkit_TooLong_Wrong_False => first | rfl | decide +kernel)
    (case yxkit_BadLine_BadLine_True => first | rfl | decide +kernel)
    (case yxkit_BadLine_NoDeed_False => first | rfl | decide +kernel)
    (case yxkit_BadLine_NoFit_False => first | rfl | decide +kernel)
    (case yxkit_BadLine_NoLine_False => first | rfl | decide +kernel)
    (case yxkit_BadLine_NoName_False => first | rfl | decide +kernel)
    (case yxkit_BadLine_NoRow_False => first | rfl | decide +kernel)
    (case yxkit_BadLine_NoRule_False => first | rfl | decide +kernel)
    (case yxkit_BadLine_NoShape_False => first | rfl | decide +kernel)
    (case yxkit_BadLine_NoTable_False => first | rfl | decide +kernel)
    (case yxkit_BadLine_NoText_False => first | rfl | decide +kernel)
    (case yxkit_BadLine_NothingDone_False => first | rfl | decide +kernel)
    (case yxkit_BadLine_Nought_False => first | rfl | decide +kernel)
    (case yxkit_BadLine_TooLong_False => first | rfl | decide +kernel)
    (case yxkit_BadLine_Unlike_False => first | rfl | decide +kernel)
    (case yxkit_BadLine_Wrong_False => first | rfl | decide +kernel)
    (case yxkit_NoDeed_BadLine_False => first | rfl | decide +kernel)
    (case yxkit_NoDeed_NoDeed_True => first | rfl | decide +kernel)
    (case yxkit_NoDeed_NoFit_False => first | rfl | decide +kernel)
    (case yxkit_NoDeed_NoLine_False => first | rfl | decide +kernel)
    (case yxkit_NoDeed_NoName_False => first | rfl | decide +kernel)
    (case yxkit_NoDeed_NoRow_False => first | rfl | decide +kernel)
    (case yxkit_NoDeed_NoRule_False => first | rfl | decide +kernel)
    (case yxkit_NoDeed_NoShape_False => first | rfl | decide +kernel)
    (case yxkit_NoDeed_NoTable_False => first | rfl | decide +kernel)
    (case yxkit_NoDeed_NoText_False => first | rfl | decide +kernel)
    (case yxkit_NoDeed_NothingDone_False => first | rfl | decide +kernel)
    (case yxkit_NoDeed_Nought_False => first | rfl | decide +kernel)
    (case yxkit_NoDeed_TooLong_False => first | rfl | decide +kernel)
    (case yxkit_NoDeed_Unlike_False => first | rfl | decide +kernel)
    (case yxkit_NoDeed_Wrong_False => first | rfl | decide +kernel)
    (case yxkit_NoRule_BadLine_False => first | rfl | decide +kernel)
    (case yxkit_NoRule_NoDeed_False => first | rfl | decide +kernel)
    (case yxkit_NoRule_NoFit_False => first | rfl | decide +kernel)
    (case yxkit_NoRule_NoLine_False => first | rfl | decide +kernel)
    (case yxkit_NoRule_NoName_False => first | rfl | decide +kernel)
    (case yxkit_NoRule_NoRow_False => first | rfl | decide +kernel)
    (case yxkit_NoRule_NoRule_True => first | rfl | decide +kernel)
    (case yxkit_NoRule_NoShape_False => first | rfl | decide +kernel)
    (case yxkit_NoRule_NoTable_False => first | rfl | decide +kernel)
    (case yxkit_NoRule_NoText_False => first | rfl | decide +kernel)
    (case yxkit_NoRule_NothingDone_False => first | rfl | decide +kernel)
    (case yxkit_NoRule_Nought_False => first | rfl | decide +kernel)
    (case yxkit_NoRule_TooLong_False => first | rfl | decide +kernel)
    (case yxkit_NoRule_Unlike_False => first | rfl | decide +kernel)
    (case yxkit_NoRule_Wrong_False => first | rfl | decide +kernel)
    (case yxkit_NoText_BadLine_False => first | rfl | decide +kernel)
    (case yxkit_NoText_NoDeed_False => first | rfl | decide +kernel)
    (case yxkit_NoText_NoFit_False => first | rfl | decide +kernel)
    (case yxkit_NoText_NoLine_False => first | rfl | decide +kernel)
    (case yxkit_NoText_NoName_False => first | rfl | decide +kernel)
    (case yxkit_NoText_NoRow_False => first | rfl | decide +kernel)
    (case yxkit_NoText_NoRule_False => first | rfl | decide +kernel)
    (case yxkit_NoText_NoShape_False => first | rfl | decide +kernel)
    (case yxkit_NoText_NoTable_False => first | rfl | decide +kernel)
    (case yxkit_NoText_NoText_True => first | rfl | decide +kernel)
    (case yxkit_NoText_NothingDone_False => first | rfl | decide +kernel)
    (case yxkit_NoText_Nought_False => first | rfl | decide +kernel)
    (case yxkit_NoText_TooLong_False => first | rfl | decide +kernel)
    (case yxkit_NoText_Unlike_False => first | rfl | decide +kernel)
    (case yxkit_NoText_Wrong_False => first | rfl | decide +kernel)
    (case yxkit_NoName_BadLine_False => first | rfl | decide +kernel)
    (case yxkit_NoName_NoDeed_False => first | rfl | decide +kernel)
    (case yxkit_NoName_NoFit_False => first | rfl | decide +kernel)
    (case yxkit_NoName_NoLine_False => first | rfl | decide +kernel)
    (case yxkit_NoName_NoName_True => first | rfl | decide +kernel)
    (case yxkit_NoName_NoRow_False => first | rfl | decide +kernel)
    (case yxkit_NoName_NoRule_False => first | rfl | decide +kernel)
    (case yxkit_NoName_NoShape_False => first | rfl | decide +kernel)
    (case yxkit_NoName_NoTable_False => first | rfl | decide +kernel)
    (case yxkit_NoName_NoText_False => first | rfl | decide +kernel)
    (case yxkit_NoName_NothingDone_False => first | rfl | decide +kernel)
    (case yxkit_NoName_Nought_False => first | rfl | decide +kernel)
    (case yxkit_NoName_TooLong_False => first | rfl | decide +kernel)
    (case yxkit_NoName_Unlike_False => first | rfl | decide +kernel)
    (case yxkit_NoName_Wrong_False => first | rfl | decide +kernel)
    (case yxkit_Unlike_BadLine_False => first | rfl | decide +kernel)
    (case yxkit_Unlike_NoDeed_False => first | rfl | decide +kernel)
    (case yxkit_Unlike_NoFit_False => first | rfl | decide +kernel)
    (case yxkit_Unlike_NoLine_False => first | rfl | decide +kernel)
    (case yxkit_Unlike_NoName_False => first | rfl | decide +kernel)
    (case yxkit_Unlike_NoRow_False => first | rfl | decide +kernel)
    (case yxkit_Unlike_NoRule_False => first | rfl | decide +kernel)
    (case yxkit_Unlike_NoShape_False => first | rfl | decide +kernel)
    (case yxkit_Unlike_NoTable_False => first | rfl | decide +kernel)
    (case yxkit_Unlike_NoText_False => first | rfl | decide +kernel)
    (case yxkit_Unlike_NothingDone_False => first | rfl | decide +kernel)
    (case yxkit_Unlike_Nought_False => first | rfl | decide +kernel)
    (case yxkit_Unlike_TooLong_False => first | rfl | decide +kernel)
    (case yxkit_Unlike_Unlike_True => first | rfl | decide +kernel)
    (case yxkit_Unlike_Wrong_False => first | rfl | decide +kernel)
    (case yxkit_Nought_BadLine_False => first | rfl | decide +kernel)
    (case yxkit_Nought_NoDeed_False => first | rfl | decide +kernel)
    (case yxkit_Nought_NoFit_False => first | rfl | decide +kernel)
    (case yxkit_Nought_NoLine_False => first | rfl | decide +kernel)
    (case yxkit_Nought_NoName_False => first | rfl | decide +kernel)
    (case yxkit_Nought_NoRow_False => first | rfl | decide +kernel)
    (case yxkit_Nought_NoRule_False => first | rfl | decide +kernel)
    (case yxkit_Nought_NoShape_False => first | rfl | decide +kernel)
    (case yxkit_Nought_NoTable_False => first | rfl | decide +kernel)
    (case yxkit_Nought_NoText_False => first | rfl | decide +kernel)
    (case yxkit_Nought_NothingDone_False => first | rfl | decide +kernel)
    (case yxkit_Nought_Nought_True => first | rfl | decide +kernel)
    (case yxkit_Nought_TooLong_False => first | rfl | decide +kernel)
    (case yxkit_Nought_Unlike_False => first | rfl | decide +kernel)
    (case yxkit_Nought_Wrong_False => first | rfl | decide +kernel)
    (case yxkit_NothingDone_BadLine_False => first | rfl | decide +kernel)
    (case yxkit_NothingDone_NoDeed_False => first | rfl | decide +kernel)
    (case yxkit_NothingDone_NoFit_False => first | rfl | decide +kernel)
    (case yxkit_NothingDone_NoLine_False => first | rfl | decide +kernel)
    (case yxkit_NothingDone_NoName_False => first | rfl | decide +kernel)
    (case yxkit_NothingDone_NoRow_False => first | rfl | decide +kernel)
    (case yxkit_NothingDone_NoRule_False => first | rfl | decide +kernel)
    (case yxkit_NothingDone_NoShape_False => first | rfl | decide +kernel)
    (case yxkit_NothingDone_NoTable_False => first | rfl | decide +kernel)
    (case yxkit_NothingDone_NoText_False => first | rfl | decide +kernel)
    (case yxkit_NothingDone_NothingDone_True => first | rfl | decide +kernel)
    (case yxkit_NothingDone_Nought_False => first | rfl | decide +kernel)
    (case yxkit_NothingDone_TooLong_False => first | rfl | decide +kernel)
    (case yxkit_NothingDone_Unlike_False => first | rfl | decide +kernel)
    (case yxkit_NothingDone_Wrong_False => first | rfl | decide +kernel)
    (case yxkit_NoLine_BadLine_False => first | rfl | decide +kernel)
    (case yxkit_NoLine_NoDeed_False => first | rfl | decide +kernel)
    (case yxkit_NoLine_NoFit_False => first | rfl | decide +kernel)
    (case yxkit_NoLine_NoLine_True => first | rfl | decide +kernel)
    (case yxkit_NoLine_NoName_False => first | rfl | decide +kernel)
    (case yxkit_NoLine_NoRow_False => first | rfl | decide +kernel)
    (case yxkit_NoLine_NoRule_False => first | rfl | decide +kernel)
    (case yxkit_NoLine_NoShape_False => first | rfl | decide +kernel)
    (case yxkit_NoLine_NoTable_False => first | rfl | decide +kernel)
    (case yxkit_NoLine_NoText_False => first | rfl | decide +kernel)
    (case yxkit_NoLine_NothingDone_False => first | rfl | decide +kernel)
    (case yxkit_NoLine_Nought_False => first | rfl | decide +kernel)
    (case yxkit_NoLine_TooLong_False => first | rfl | decide +kernel)
    (case yxkit_NoLine_Unlike_False => first | rfl | decide +kernel)
    (case yxkit_NoLine_Wrong_False => first | rfl | decide +kernel)
    (case yxkib_ValueError_BadLine => first | rfl | decide +kernel)
    (case yxkib_ValueError_NoDeed => first | rfl | decide +kernel)
    (case yxkib_ValueError_NoFit => first | rfl | decide +kernel)
    (case yxkib_ValueError_NoLine => first | rfl | decide +kernel)
    (case yxkib_ValueError_NoName => first | rfl | decide +kernel)
    (case yxkib_ValueError_NoRow => first | rfl | decide +kernel)
    (case yxkib_ValueError_NoRule => first | rfl | decide +kernel)
    (case yxkib_ValueError_NoShape => first | rfl | decide +kernel)
    (case yxkib_ValueError_NoTable => first | rfl | decide +kernel)
    (case yxkib_ValueError_NoText => first | rfl | decide +kernel)
    (case yxkib_ValueError_NothingDone => first | rfl | decide +kernel)
    (case yxkib_ValueError_Nought => first | rfl | decide +kernel)
    (case yxkib_ValueError_TooLong => first | rfl | decide +kernel)
    (case yxkib_ValueError_Unlike => first | rfl | decide +kernel)
    (case yxkib_ValueError_Wrong => first | rfl | decide +kernel)
    (case yxkit_LoftError_BadLine_True => first | rfl | decide +kernel)
    (case yxkit_LoftError_NoDeed_True => first | rfl | decide +kernel)
    (case yxkit_LoftError_NoFit_True => first | rfl | decide +kernel)
    (case yxkit_LoftError_NoLine_True => first | rfl | decide +kernel)
    (case yxkit_LoftError_NoName_True => first | rfl | decide +kernel)
    (case yxkit_LoftError_NoRow_True => first | rfl | decide +kernel)
    (case yxkit_LoftError_NoRule_True => first | rfl | decide +kernel)
    (case yxkit_LoftError_NoShape_True => first | rfl | decide +kernel)
    (case yxkit_LoftError_NoTable_True => first | rfl | decide +kernel)
    (case yxkit_LoftError_NoText_True => first | rfl | decide +kernel)
    (case yxkit_LoftError_NothingDone_True => first | rfl | decide +kernel)
    (case yxkit_LoftError_Nought_True => first | rfl | decide +kernel)
    (case yxkit_LoftError_TooLong_True => first | rfl | decide +kernel)
    (case yxkit_LoftError_Unlike_True => first | rfl | decide +kernel)
    (case yxkit_LoftError_Wrong_True => first | rfl | decide +kernel)
    (case yxxcf_NoShape_part => first | rfl | decide +kernel)
    (case yxxcf_NoFit_number => first | rfl | decide +kernel)
    (case yxxcf_TooLong_number => first | rfl | decide +kernel)
    (case yxxcf_Wrong_why => first | rfl | decide +kernel)
    (case yxxcf_Wrong_place => first | rfl | decide +kernel)
    (case yxxcf_BadLine_at => first | rfl | decide +kernel)
    (case yxxcf_NoRow_at => first | rfl | decide +kernel)
    (case yxxcf_NoTable_at => first | rfl | decide +kernel)
    (case yxxcf_NoRule_rule => first | rfl | decide +kernel)
    (case yxxcf_NoDeed_deed => first | rfl | decide +kernel)
    (case yxxcf_NoName_name => first | rfl | decide +kernel)
