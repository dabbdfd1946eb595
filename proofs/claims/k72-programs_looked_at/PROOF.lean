import PyProof.Rows.All
import Wide.All
import OpenK.AllK
import Wide.FinOn
import HandS.ForMost
import HandS.ForExc
import HandS.Wide
import HandS.Evl
import HandS.TupAny
import HandS.TupMul
import HandS.NoneIn
import HandS.Zip
import HandS.IsInst
import HandS.Text
import HandS.StrMore
import HandS.Comp
import HandS.Style
import KE.KeyNested
import PyProof.StrOps2
import KE.GoesMore
import KE.GoesEnum
import KE.GoesZip
import HandS.ExcCtx
import HandS.ExcOwn
import HandS.ExcInit
import HandS.ExcIs
import HandS.ExcField
import HandS.Replace
import HandS.CallLocal
import HandS.WideBits
import HandS.Conv
import KE.GoesEnumKw
import PyProof.Rows.CallKwBuiltin
import HandS.HotCalls
import HandS.More
import HandS.RaiseMore
import HandS.TupLe
import HandS.Flt
import HandS.TupLen
import HandS.FStr
import HandS.Flow
import HandS.WordsDict
import HandS.Strs
import PyProof.Rows.SortStr
import PyProof.Rows.StrMeet
import KE.GoesComp
import PySem.Challenge.RW_tensloft_k72_programs_looked_at
set_option Elab.async false
set_option linter.all false
set_option maxRecDepth 100000
set_option maxHeartbeats 2000000
namespace Tm
open PySem L2
inductive MV where
  | non | bl (b : Bool) | int (i : Int) | str (x : Str)
  | tup (xs : List MV) | lst (xs : List MV) | own (xs : List MV)
  | raw (v : V) | scr (ns : List Int)
  | fnc (x : Str)
  | obj (C : Str) (fs : List (Str × MV))
  | dct (ks : List Key) (xs : List MV)
  | dow (ks : List Key) (xs : List MV)
  | dot (ks : List MV) (xs : List MV)
  | ols (os : List MV)
  | exn (C : Str) (fs : List (Str × MV))
instance : Inhabited MV := ⟨.non⟩
abbrev Env := List (Option MV)
structure MX where
  cls : Str
  fs : List (Str × MV)
inductive Res (α : Type) where
  | ok (a : α) | exc (e : MX) (ρ : Env) | stuck
inductive Fl where
  | nx | br | ct | rt (x : MV)
open Evl (Ex ex_rd ex_l ex_t)
theorem _root_.Evl.Ex.back {H H' : Hp} {p : Addr} (e : Ex H H') (h : H' p = none) : H p = none := Evl.fresh_back e h
theorem _root_.Evl.Ex.both {H H' : Hp} {p : Addr} {o : HO} (e : Ex H H') (h : H' p = none) : Ex (upd H p o) (upd H' p o) := fun a u ha => by
  by_cases hp : a = p
  · subst hp; rw [upd_same] at ha ⊢; exact ha
  · rw [upd_ne hp] at ha ⊢; exact e a u ha
theorem _root_.Evl.Ex.updL {H H' : Hp} {p : Addr} {o : HO} (e : Ex H H') (h : H' p = some o) : Ex (upd H p o) H' := fun a u ha => by
  by_cases hp : a = p
  · subst hp; rw [upd_same] at ha; cases ha; exact h
  · rw [upd_ne hp] at ha; exact e a u ha
def XAt (a C : Addr) (d : Option Addr) (h : Heap) : Prop := ∃ oe vs, h.get? a = some oe ∧ oe.cls = .ref C ∧ oe.dict = d ∧ oe.data = .fields vs
def XdAt (a : Addr) (fs : List (Str × V)) (h : Heap) : Prop := ∃ mA, h.Ns1 a mA ∧ ∀ f, RelO (fs.lookup f) (mA f)
def plV : MV → V
  | .int i => .int i
  | .str x => .str x
  | .bl b => .bl b
  | _ => .non
def ExnAt (K : PySem.W.Frag) (H : Hp) (C : Str) (fs : List (Str × MV)) (v : V) : Prop := ∃ a CA d, v = .ref a ∧ PySem.W.nsIn K mainGlobals C = some (some (.ref CA)) ∧ H a = some (.ext (XAt a CA d)) ∧
  ((fs = [] ∧ d = none) ∨ ∃ dx, d = some dx ∧ H dx = some (.ext (XdAt dx (fs.map fun p => (p.1, plV p.2)))))
theorem ExnAt.mono {K : PySem.W.Frag} {H H' : Hp} (e : Ex H H') {C : Str} {fs : List (Str × MV)} {v : V} (h : ExnAt K H C fs v) : ExnAt K H' C fs v := by
  obtain ⟨a, CA, d, h1, h2, h3, h4⟩ := h
  refine ⟨a, CA, d, h1, h2, e _ _ h3, ?_⟩
  rcases h4 with h4 | ⟨dx, h5, h6⟩
  · exact .inl h4
  · exact .inr ⟨dx, h5, e _ _ h6⟩
mutual
def RV (K : PySem.W.Frag) (H : Hp) : MV → V → Prop
  | .non, v => v = .non
  | .bl b, v => v = .bl b
  | .int i, v => v = .int i
  | .str x, v => v = .str x
  | .tup xs, v => ∃ a vs, v = .ref a ∧ SqT K H a vs ∧ RVs K H xs vs
  | .lst xs, v => ∃ a vs, v = .ref a ∧ H a = some (.lst vs) ∧ RVs K H xs vs
  | .own _, _ => False
  | .raw w, v => v = w
  | .scr ns, v => ∃ a, v = .ref a ∧ SqL K H a (ns.map V.int)
  | .fnc x, v => ∃ a, v = .ref a ∧ PySem.W.nsIn K mainGlobals x = some (some (.ref a))
  | .obj _ _, _ => False
  | .dct ks xs, v => ∃ a vs, v = .ref a ∧ H a = some (.dK (ks.zip vs)) ∧ ks.length = xs.length ∧ RVs K H xs vs
  | .dow _ _, _ => False
  | .dot _ _, _ => False
  | .ols _, _ => False
  | .exn C fs, v => ExnAt K H C fs v
def RVs (K : PySem.W.Frag) (H : Hp) : List MV → List V → Prop
  | [], vs => vs = []
  | x :: xs, vs => ∃ v r, vs = v :: r ∧ RV K H x v ∧ RVs K H xs r
end
mutual
theorem RV.mono {K : PySem.W.Frag} {H H' : Hp} (e : Ex H H') : ∀ (x : MV) (v : V), RV K H x v → RV K H' x v
  | .non, v, h => by unfold RV at h ⊢; exact h
  | .bl b, v, h => by unfold RV at h ⊢; exact h
  | .int i, v, h => by unfold RV at h ⊢; exact h
  | .str x, v, h => by unfold RV at h ⊢; exact h
  | .tup xs, v, h => by
    unfold RV at h ⊢
    obtain ⟨a, vs, e1, e2, e3⟩ := h
    exact ⟨a, vs, e1, ex_t e e2, RVs.mono e xs vs e3⟩
  | .lst xs, v, h => by
    unfold RV at h ⊢
    obtain ⟨a, vs, e1, e2, e3⟩ := h
    exact ⟨a, vs, e1, e _ _ e2, RVs.mono e xs vs e3⟩
  | .own xs, v, h => by unfold RV at h; exact h.elim
  | .raw w, v, h => by unfold RV at h ⊢; exact h
  | .scr ns, v, h => by
    unfold RV at h ⊢
    obtain ⟨a, e1, e2⟩ := h
    exact ⟨a, e1, ex_l e e2⟩
  | .fnc x, v, h => by unfold RV at h ⊢; exact h
  | .obj C fs, v, h => by unfold RV at h; exact h.elim
  | .dct ks xs, v, h => by
    unfold RV at h ⊢
    obtain ⟨a, vs, e1, e2, e3, e4⟩ := h
    exact ⟨a, vs, e1, e _ _ e2, e3, RVs.mono e xs vs e4⟩
  | .dow ks xs, v, h => by unfold RV at h; exact h.elim
  | .dot ks xs, v, h => by unfold RV at h; exact h.elim
  | .ols os, v, h => by unfold RV at h; exact h.elim
  | .exn C fs, v, h => by unfold RV at h ⊢; exact h.mono e
theorem RVs.mono {K : PySem.W.Frag} {H H' : Hp} (e : Ex H H') : ∀ (xs : List MV) (vs : List V), RVs K H xs vs → RVs K H' xs vs
  | [], vs, h => by unfold RVs at h ⊢; exact h
  | x :: xs, vs, h => by
    unfold RVs at h ⊢
    obtain ⟨v, r, e1, e2, e3⟩ := h
    exact ⟨v, r, e1, RV.mono e x v e2, RVs.mono e xs r e3⟩
end
section
variable {K : PySem.W.Frag} {H : Hp}
theorem RV.int {i : Int} {v : V} : RV K H (.int i) v ↔ v = .int i := by unfold RV; rfl
theorem RV.bl {i : Bool} {v : V} : RV K H (.bl i) v ↔ v = .bl i := by unfold RV; rfl
theorem RV.str {i : Str} {v : V} : RV K H (.str i) v ↔ v = .str i := by unfold RV; rfl
theorem RV.non {v : V} : RV K H .non v ↔ v = .non := by unfold RV; rfl
theorem RV.raw {w v : V} : RV K H (.raw w) v ↔ v = w := by unfold RV; rfl
theorem RV.tup {xs : List MV} {v : V} : RV K H (.tup xs) v ↔ ∃ a vs, v = .ref a ∧ SqT K H a vs ∧ RVs K H xs vs := by
  constructor <;> intro h <;> (unfold RV at *; exact h)
theorem RV.lst {xs : List MV} {v : V} : RV K H (.lst xs) v ↔ ∃ a vs, v = .ref a ∧ H a = some (.lst vs) ∧ RVs K H xs vs := by
  constructor <;> intro h <;> (unfold RV at *; exact h)
theorem RV.dct {ks : List Key} {xs : List MV} {v : V} : RV K H (.dct ks xs) v ↔ ∃ a vs, v = .ref a ∧ H a = some (.dK (ks.zip vs)) ∧ ks.length = xs.length ∧ RVs K H xs vs := by
  constructor <;> intro h <;> (unfold RV at *; exact h)
theorem RV.exn {C : Str} {fs : List (Str × MV)} {v : V} : RV K H (.exn C fs) v ↔ ExnAt K H C fs v := by
  constructor <;> intro h <;> (unfold RV at *; exact h)
theorem RV.scr {ns : List Int} {v : V} : RV K H (.scr ns) v ↔ ∃ a, v = .ref a ∧ SqL K H a (ns.map V.int) := by
  constructor <;> intro h <;> (unfold RV at *; exact h)
theorem RV.fnc {x : Str} {v : V} : RV K H (.fnc x) v ↔ ∃ a, v = .ref a ∧ PySem.W.nsIn K mainGlobals x = some (some (.ref a)) := by
  constructor <;> intro h <;> (unfold RV at *; exact h)
theorem RVs.nil {vs : List V} : RVs K H [] vs ↔ vs = [] := by unfold RVs; rfl
theorem RVs.cons {x : MV} {xs : List MV} {vs : List V} : RVs K H (x :: xs) vs ↔ ∃ v r, vs = v :: r ∧ RV K H x v ∧ RVs K H xs r := by
  rw [RVs]
theorem RVs.length : ∀ {xs : List MV} {vs : List V}, RVs K H xs vs → vs.length = xs.length
  | [], vs, h => by rw [RVs.nil] at h; subst h; rfl
  | x :: xs, vs, h => by
    rw [RVs.cons] at h
    obtain ⟨v, r, rfl, _, h⟩ := h
    simp [RVs.length h]
theorem RVs.get : ∀ {xs : List MV} {vs : List V} {i : Nat} {x : MV}, RVs K H xs vs → xs[i]? = some x → ∃ v, vs[i]? = some v ∧ RV K H x v
  | [], _, i, x, _, e => by simp at e
  | y :: xs, vs, 0, x, h, e => by
    rw [RVs.cons] at h
    obtain ⟨v, r, rfl, h1, _⟩ := h
    simp at e; subst e; exact ⟨v, rfl, h1⟩
  | y :: xs, vs, i + 1, x, h, e => by
    rw [RVs.cons] at h
    obtain ⟨v, r, rfl, _, h⟩ := h
    obtain ⟨u, h1, h2⟩ := RVs.get (i := i) (x := x) h (by simpa using e)
    exact ⟨u, by simpa using h1, h2⟩
theorem RVs.append : ∀ {xs ys : List MV} {vs ws : List V}, RVs K H xs vs → RVs K H ys ws → RVs K H (xs ++ ys) (vs ++ ws)
  | [], ys, vs, ws, h, h2 => by rw [RVs.nil] at h; subst h; exact h2
  | x :: xs, ys, vs, ws, h, h2 => by
    rw [RVs.cons] at h
    obtain ⟨v, r, rfl, h1, h⟩ := h
    show RVs K H (x :: (xs ++ ys)) (v :: (r ++ ws))
    rw [RVs.cons]
    exact ⟨v, r ++ ws, rfl, h1, RVs.append h h2⟩
theorem RVs.take : ∀ {xs : List MV} {vs : List V} (n : Nat), RVs K H xs vs → RVs K H (xs.take n) (vs.take n)
  | _, _, 0, _ => by simp [RVs]
  | [], vs, n + 1, h => by rw [RVs.nil] at h; subst h; simp [RVs]
  | x :: xs, vs, n + 1, h => by
    rw [RVs.cons] at h
    obtain ⟨v, r, rfl, h1, h⟩ := h
    show RVs K H (x :: xs.take n) (v :: r.take n)
    rw [RVs.cons]
    exact ⟨v, _, rfl, h1, RVs.take n h⟩
theorem RVs.drop : ∀ {xs : List MV} {vs : List V} (n : Nat), RVs K H xs vs → RVs K H (xs.drop n) (vs.drop n)
  | _, _, 0, h => h
  | [], vs, n + 1, h => by rw [RVs.nil] at h; subst h; simp [RVs]
  | x :: xs, vs, n + 1, h => by
    rw [RVs.cons] at h
    obtain ⟨v, r, rfl, h1, h⟩ := h
    exact RVs.drop n h
theorem RVs.set : ∀ {xs : List MV} {vs : List V} (i : Nat) {x : MV} {v : V}, RVs K H xs vs → RV K H x v → RVs K H (xs.set i x) (vs.set i v)
  | [], vs, i, x, v, h, _ => by rw [RVs.nil] at h; subst h; simp [RVs]
  | y :: xs, vs, 0, x, v, h, h2 => by
    rw [RVs.cons] at h
    obtain ⟨u, r, rfl, h1, h⟩ := h
    show RVs K H (x :: xs) (v :: r)
    rw [RVs.cons]; exact ⟨v, r, rfl, h2, h⟩
  | y :: xs, vs, i + 1, x, v, h, h2 => by
    rw [RVs.cons] at h
    obtain ⟨u, r, rfl, h1, h⟩ := h
    show RVs K H (y :: xs.set i x) (u :: r.set i v)
    rw [RVs.cons]; exact ⟨u, _, rfl, h1, RVs.set i h h2⟩
theorem RVs.reverse : ∀ {xs : List MV} {vs : List V}, RVs K H xs vs → RVs K H xs.reverse vs.reverse
  | [], vs, h => by rw [RVs.nil] at h; subst h; simp [RVs]
  | x :: xs, vs, h => by
    rw [RVs.cons] at h
    obtain ⟨v, r, rfl, h1, h⟩ := h
    rw [List.reverse_cons, List.reverse_cons]
    refine RVs.append (RVs.reverse h) ?_
    rw [RVs.cons]; exact ⟨v, [], rfl, h1, RVs.nil.mpr rfl⟩
theorem RVs.ints : ∀ {ns : List Int} {vs : List V}, RVs K H (ns.map MV.int) vs ↔ vs = ns.map V.int
  | [], vs => RVs.nil
  | n :: ns, vs => by
    rw [List.map_cons, RVs.cons]
    constructor
    · rintro ⟨v, r, rfl, h1, h2⟩
      rw [RV.int.mp h1, RVs.ints.mp h2]; rfl
    · rintro rfl
      exact ⟨_, _, rfl, RV.int.mpr rfl, RVs.ints.mpr rfl⟩
end
mutual
def nkI : MV → Option NestedKey
  | .int i => some (.num i)
  | .tup xs => (nkIs xs).map .tup
  | _ => none
def nkIs : List MV → Option (List NestedKey)
  | [] => some []
  | x :: xs => match nkI x, nkIs xs with
    | some k, some ks => some (k :: ks)
    | _, _ => none
end
mutual
def nh : NestedKey → Int
  | .none => reduceHash 0xFCA86420
  | .num i => hashInt i
  | .text _ => 0
  | .tup ks => reduceHash (Builtin.Tuple.tupleHashOf (nhs ks))
def nhs : List NestedKey → List Int
  | [] => []
  | k :: ks => nh k :: nhs ks
end
def nEntry (x : NestedKey × Addr × Value) : DictEntry := ⟨nh x.1, .ref x.2.1, x.2.2⟩
def nDict (p : Addr) (kvs : List (NestedKey × Addr × V)) (h : Heap) : Prop :=
  kvs.length ≤ sizeLine ∧ (p == sysModules) = false ∧ ∃ xs : List (NestedKey × Addr × Value), Paired (fun (a : NestedKey × Addr × V) (b : NestedKey × Addr × Value) => a.1 = b.1 ∧ a.2.1 = b.2.1 ∧ RelV a.2.2 b.2.2) kvs xs ∧
    ∃ o es ep, h.get? p = some o ∧ o.ExactDict ∧ o.data = .dict es ep ∧ es.toList = xs.map nEntry ∧ (xs.map (·.1)).Nodup
def KN (K : PySem.W.Frag) (Hk : Hp) : List MV → List MV → List (NestedKey × Addr × V) → Prop
  | [], [], l => l = []
  | k :: ks, x :: xs, l => ∃ nk a v r, l = (nk, a, v) :: r ∧ nkI k = some nk ∧ nk.depth ≤ 8 ∧ RV K Hk k (.ref a) ∧ RV K Hk x v ∧ KN K Hk ks xs r
  | _, _, _ => False
theorem KN.mono {K : PySem.W.Frag} {H H' : Hp} (e : Ex H H') : ∀ {ks xs : List MV} {l : List (NestedKey × Addr × V)}, KN K H ks xs l → KN K H' ks xs l
  | [], [], _, h => h
  | [], _ :: _, _, h => h.elim
  | _ :: _, [], _, h => h.elim
  | k :: ks, x :: xs, _, h => by
    obtain ⟨nk, a, v, r, h1, h2, h3, h4, h5, h6⟩ := h
    exact ⟨nk, a, v, r, h1, h2, h3, RV.mono e _ _ h4, RV.mono e _ _ h5, KN.mono e h6⟩
def OF (K : PySem.W.Frag) (Hk H : Hp) : MV → V → List Addr → Prop
  | .own xs, v, A => ∃ p vs, v = .ref p ∧ A = [p] ∧ H p = some (.lst vs) ∧ RVs K Hk xs vs
  | .dow ks xs, v, A => ∃ p vs, v = .ref p ∧ A = [p] ∧ H p = some (.dK (ks.zip vs)) ∧ ks.length = xs.length ∧ RVs K Hk xs vs
  | .dot ks xs, v, A => ∃ p l, v = .ref p ∧ A = [p] ∧ H p = some (.ext (nDict p l)) ∧ KN K Hk ks xs l
  | x, v, A => A = [] ∧ RV K Hk x v
def OFs (K : PySem.W.Frag) (Hk H : Hp) : List (Str × MV) → List (Str × V) → List Addr → Prop
  | [], vs, A => vs = [] ∧ A = []
  | (n, x) :: xs, vs, A => ∃ v r B C, vs = (n, v) :: r ∧ A = B ++ C ∧ OF K Hk H x v B ∧ OFs K Hk H xs r C
def OB (K : PySem.W.Frag) (Hk H : Hp) : MV → V → List Addr → Prop
  | .obj C fs, v, A => ∃ p CA dx vfs B, v = .ref p ∧ A = p :: B ∧ PySem.W.nsIn K mainGlobals C = some (some (.ref CA)) ∧ H p = some (.ins CA dx vfs) ∧ OFs K Hk H fs vfs B ∧ (p :: B).Nodup
  | .own xs, v, A => ∃ p vs, v = .ref p ∧ A = [p] ∧ H p = some (.lst vs) ∧ RVs K Hk xs vs
  | _, _, _ => False
def OBs (K : PySem.W.Frag) (Hk H : Hp) : List MV → List V → List Addr → Prop
  | [], vs, A => vs = [] ∧ A = []
  | x :: xs, vs, A => ∃ v r B C, vs = v :: r ∧ A = B ++ C ∧ OB K Hk H x v B ∧ OBs K Hk H xs r C
def OV (K : PySem.W.Frag) (Hk H : Hp) : MV → V → List Addr → Prop
  | .ols os, v, A => ∃ p vs B, v = .ref p ∧ A = p :: B ∧ H p = some (.lst vs) ∧ OBs K Hk H os vs B ∧ (p :: B).Nodup
  | .obj C fs, v, A => ∃ p CA dx vfs B, v = .ref p ∧ A = p :: B ∧ PySem.W.nsIn K mainGlobals C = some (some (.ref CA)) ∧ H p = some (.ins CA dx vfs) ∧ OFs K Hk H fs vfs B ∧ (p :: B).Nodup
  | x, v, A => OF K Hk H x v A
def MV.per : MV → Bool
  | .own _ => false
  | .obj _ _ => false
  | .dow _ _ => false
  | .dot _ _ => false
  | .ols _ => false
  | _ => true
theorem OF.per {K : PySem.W.Frag} {Hk H : Hp} {x : MV} {v : V} {A : List Addr} (h : x.per = true) : OF K Hk H x v A ↔ A = [] ∧ RV K Hk x v := by
  cases x <;> first | (simp [MV.per] at h; done) | (unfold OF; rfl)
theorem OV.per {K : PySem.W.Frag} {Hk H : Hp} {x : MV} {v : V} {A : List Addr} (h : x.per = true) : OV K Hk H x v A ↔ A = [] ∧ RV K Hk x v := by
  cases x <;> first | (simp [MV.per] at h; done) | (unfold OV OF; rfl)
theorem OV.own {K : PySem.W.Frag} {Hk H : Hp} {xs : List MV} {v : V} {A : List Addr} : OV K Hk H (.own xs) v A ↔ ∃ p vs, v = .ref p ∧ A = [p] ∧ H p = some (.lst vs) ∧ RVs K Hk xs vs := by
  unfold OV OF; rfl
theorem RV.isper {K : PySem.W.Frag} {H : Hp} {x : MV} {v : V} (h : RV K H x v) : x.per = true := by
  cases x <;> first | rfl | (unfold RV at h; exact h.elim)
theorem RV.ov {K : PySem.W.Frag} {Hk H : Hp} {x : MV} {v : V} (h : RV K Hk x v) : OV K Hk H x v [] := (OV.per h.isper).mpr ⟨rfl, h⟩
theorem OF.move {K : PySem.W.Frag} {Hk Hk' H H' : Hp} {x : MV} {v : V} {A : List Addr} (h : OF K Hk H x v A) (e : Ex Hk Hk') (k : ∀ a ∈ A, ∀ o, H a = some o → H' a = some o) : OF K Hk' H' x v A := by
  cases x with
  | own xs =>
    unfold OF at h ⊢
    obtain ⟨p, vs, e1, e2, e3, e4⟩ := h
    exact ⟨p, vs, e1, e2, k p (by rw [e2]; simp) _ e3, e4.mono e⟩
  | dow ks xs =>
    unfold OF at h ⊢
    obtain ⟨p, vs, e1, e2, e3, e5, e4⟩ := h
    exact ⟨p, vs, e1, e2, k p (by rw [e2]; simp) _ e3, e5, e4.mono e⟩
  | dot ks xs =>
    unfold OF at h ⊢
    obtain ⟨p, l, e1, e2, e3, e4⟩ := h
    exact ⟨p, l, e1, e2, k p (by rw [e2]; simp) _ e3, e4.mono e⟩
  | obj C fs => exact (show False by unfold OF at h; unfold RV at h; exact h.2).elim
  | _ =>
    unfold OF at h ⊢
    exact ⟨h.1, RV.mono e _ _ h.2⟩
theorem OFs.move {K : PySem.W.Frag} {Hk Hk' H H' : Hp} : ∀ {fs : List (Str × MV)} {vs : List (Str × V)} {A : List Addr}, OFs K Hk H fs vs A → Ex Hk Hk' → (∀ a ∈ A, ∀ o, H a = some o → H' a = some o) → OFs K Hk' H' fs vs A
  | [], _, _, h, _, _ => h
  | (n, x) :: fs, vs, A, h, e, k => by
    obtain ⟨v, r, B, C, e1, e2, h1, h2⟩ := h
    refine ⟨v, r, B, C, e1, e2, h1.move e fun a ha => k a (by rw [e2]; exact List.mem_append_left _ ha), OFs.move h2 e fun a ha => k a (by rw [e2]; exact List.mem_append_right _ ha)⟩
theorem OB.move {K : PySem.W.Frag} {Hk Hk' H H' : Hp} {x : MV} {v : V} {A : List Addr} (h : OB K Hk H x v A) (e : Ex Hk Hk') (k : ∀ a ∈ A, ∀ o, H a = some o → H' a = some o) : OB K Hk' H' x v A := by
  cases x with
  | obj C fs =>
    unfold OB at h ⊢
    obtain ⟨p, CA, dx, vfs, B, e1, e2, e0, e3, e4, e5⟩ := h
    exact ⟨p, CA, dx, vfs, B, e1, e2, e0, k p (by rw [e2]; simp) _ e3, OFs.move e4 e fun a ha => k a (by rw [e2]; exact List.mem_cons_of_mem _ ha), e5⟩
  | own xs =>
    unfold OB at h ⊢
    obtain ⟨p, vs, e1, e2, e3, e4⟩ := h
    exact ⟨p, vs, e1, e2, k p (by rw [e2]; simp) _ e3, e4.mono e⟩
  | _ => exact (show False by unfold OB at h; exact h).elim
theorem OBs.move {K : PySem.W.Frag} {Hk Hk' H H' : Hp} : ∀ {xs : List MV} {vs : List V} {A : List Addr}, OBs K Hk H xs vs A → Ex Hk Hk' → (∀ a ∈ A, ∀ o, H a = some o → H' a = some o) → OBs K Hk' H' xs vs A
  | [], _, _, h, _, _ => h
  | x :: xs, vs, A, h, e, k => by
    obtain ⟨v, r, B, C, e1, e2, h1, h2⟩ := h
    exact ⟨v, r, B, C, e1, e2, h1.move e fun a ha => k a (by rw [e2]; exact List.mem_append_left _ ha), OBs.move h2 e fun a ha => k a (by rw [e2]; exact List.mem_append_right _ ha)⟩
theorem OV.move {K : PySem.W.Frag} {Hk Hk' H H' : Hp} {x : MV} {v : V} {A : List Addr} (h : OV K Hk H x v A) (e : Ex Hk Hk') (k : ∀ a ∈ A, ∀ o, H a = some o → H' a = some o) : OV K Hk' H' x v A := by
  cases x with
  | obj C fs =>
    unfold OV at h ⊢
    obtain ⟨p, CA, dx, vfs, B, e1, e2, e0, e3, e4, e5⟩ := h
    exact ⟨p, CA, dx, vfs, B, e1, e2, e0, k p (by rw [e2]; simp) _ e3, OFs.move e4 e fun a ha => k a (by rw [e2]; exact List.mem_cons_of_mem _ ha), e5⟩
  | ols os =>
    unfold OV at h ⊢
    obtain ⟨p, vs, B, e1, e2, e3, e4, e5⟩ := h
    exact ⟨p, vs, B, e1, e2, k p (by rw [e2]; simp) _ e3, e4.move e fun a ha => k a (by rw [e2]; exact List.mem_cons_of_mem _ ha), e5⟩
  | _ => (unfold OV at h ⊢; exact OF.move h e k)
theorem OF.there {K : PySem.W.Frag} {Hk H : Hp} {x : MV} {v : V} {A : List Addr} (h : OF K Hk H x v A) : ∀ a ∈ A, ∃ o, H a = some o := by
  cases x with
  | own xs =>
    unfold OF at h
    obtain ⟨p, vs, e1, e2, e3, e4⟩ := h
    intro a ha
    rw [e2] at ha
    simp at ha
    subst ha
    exact ⟨_, e3⟩
  | dow ks xs =>
    unfold OF at h
    obtain ⟨p, vs, e1, e2, e3, e5, e4⟩ := h
    intro a ha
    rw [e2] at ha
    simp at ha
    subst ha
    exact ⟨_, e3⟩
  | dot ks xs =>
    unfold OF at h
    obtain ⟨p, l, e1, e2, e3, e4⟩ := h
    intro a ha
    rw [e2] at ha
    simp at ha
    subst ha
    exact ⟨_, e3⟩
  | _ =>
    unfold OF at h
    intro a ha
    rw [h.1] at ha
    cases ha
theorem OFs.there {K : PySem.W.Frag} {Hk H : Hp} : ∀ {fs : List (Str × MV)} {vs : List (Str × V)} {A : List Addr}, OFs K Hk H fs vs A → ∀ a ∈ A, ∃ o, H a = some o
  | [], _, _, h, a, ha => by rw [h.2] at ha; cases ha
  | (n, x) :: fs, vs, A, h, a, ha => by
    obtain ⟨v, r, B, C, e1, e2, h1, h2⟩ := h
    rw [e2] at ha
    rcases List.mem_append.mp ha with ha | ha
    · exact h1.there a ha
    · exact OFs.there h2 a ha
theorem OB.there {K : PySem.W.Frag} {Hk H : Hp} {x : MV} {v : V} {A : List Addr} (h : OB K Hk H x v A) : ∀ a ∈ A, ∃ o, H a = some o := by
  cases x with
  | obj C fs =>
    unfold OB at h
    obtain ⟨p, CA, dx, vfs, B, e1, e2, e0, e3, e4, e5⟩ := h
    intro a ha
    rw [e2] at ha
    rcases List.mem_cons.mp ha with rfl | ha
    · exact ⟨_, e3⟩
    · exact OFs.there e4 a ha
  | own xs =>
    unfold OB at h
    obtain ⟨p, vs, e1, e2, e3, e4⟩ := h
    intro a ha
    rw [e2] at ha
    simp at ha
    subst ha
    exact ⟨_, e3⟩
  | _ => exact (show False by unfold OB at h; exact h).elim
theorem OBs.there {K : PySem.W.Frag} {Hk H : Hp} : ∀ {xs : List MV} {vs : List V} {A : List Addr}, OBs K Hk H xs vs A → ∀ a ∈ A, ∃ o, H a = some o
  | [], _, _, h, a, ha => by rw [h.2] at ha; cases ha
  | x :: xs, vs, A, h, a, ha => by
    obtain ⟨v, r, B, C, e1, e2, h1, h2⟩ := h
    rw [e2] at ha
    rcases List.mem_append.mp ha with ha | ha
    · exact h1.there a ha
    · exact OBs.there h2 a ha
theorem OV.there {K : PySem.W.Frag} {Hk H : Hp} {x : MV} {v : V} {A : List Addr} (h : OV K Hk H x v A) : ∀ a ∈ A, ∃ o, H a = some o := by
  cases x with
  | obj C fs =>
    unfold OV at h
    obtain ⟨p, CA, dx, vfs, B, e1, e2, e0, e3, e4, e5⟩ := h
    intro a ha
    rw [e2] at ha
    rcases List.mem_cons.mp ha with rfl | ha
    · exact ⟨_, e3⟩
    · exact OFs.there e4 a ha
  | ols os =>
    unfold OV at h
    obtain ⟨p, vs, B, e1, e2, e3, e4, e5⟩ := h
    intro a ha
    rw [e2] at ha
    rcases List.mem_cons.mp ha with rfl | ha
    · exact ⟨_, e3⟩
    · exact OBs.there e4 a ha
  | _ => (unfold OV at h; exact OF.there h)
def put (ow : Nat → List Addr) (i : Nat) (A : List Addr) : Nat → List Addr := fun j => if j = i then A else ow j
theorem put_same {ow : Nat → List Addr} {i : Nat} {A : List Addr} : put ow i A i = A := if_pos rfl
theorem put_ne {ow : Nat → List Addr} {i j : Nat} {A : List Addr} (h : j ≠ i) : put ow i A j = ow j := if_neg h
structure SL (K : PySem.W.Frag) (F Hk H : Hp) (ow : Nat → List Addr) (σ : St) (ρ : Env) : Prop where
  s : ∀ (i : Nat) x, ρ[i]? = some (some x) → ∃ v, σ[i]? = some (some v) ∧ OV K Hk H x v (ow i)
  f : ∀ i a, a ∈ ow i → Hk a = none ∧ F a = none ∧ ∃ o, H a = some o
  w : ∀ i, ow i ≠ [] → i < ρ.length
  d : ∀ i j a, i ≠ j → a ∈ ow i → a ∉ ow j
structure RS (K : PySem.W.Frag) (F Hk H : Hp) (bp : List (Nat × Addr)) (σ : St) (ρ : Env) : Prop where
  len : σ.length = ρ.length
  ex : Ex Hk H
  fr : Ex F H
  frk : ∀ a o, F a = some o → Hk a = none
  ow : ∃ ow, SL K F Hk H ow σ ρ
  bor : ∀ q ∈ bp, σ[q.1]? = some (some (.ref q.2))
theorem set_get {α : Type} {l : List α} {i j : Nat} {x y : α} (h : (l.set i x)[j]? = some y) : (j = i ∧ y = x) ∨ (j ≠ i ∧ l[j]? = some y) := by
  by_cases e : i = j
  · subst e
    rw [List.getElem?_set] at h
    simp at h
    exact .inl ⟨rfl, h.2.symm⟩
  · rw [List.getElem?_set_ne e] at h
    exact .inr ⟨fun q => e q.symm, h⟩
theorem app_get {α : Type} {l : List α} {j : Nat} {x y : α} (h : (l ++ [x])[j]? = some y) : (j = l.length ∧ y = x) ∨ (j < l.length ∧ l[j]? = some y) := by
  by_cases e : j < l.length
  · rw [List.getElem?_append_left e] at h; exact .inr ⟨e, h⟩
  · rw [List.getElem?_append_right (Nat.le_of_not_lt e)] at h
    have := (List.getElem?_eq_some_iff.mp h).1
    simp at this
    have ej : j = l.length := by omega
    subst ej
    simp at h
    exact .inl ⟨rfl, h.symm⟩
theorem lt_get {α : Type} {l : List α} {j : Nat} {y : α} (h : l[j]? = some y) : j < l.length := (List.getElem?_eq_some_iff.mp h).1
section
variable {K : PySem.W.Frag} {F Hk Hk' H H' : Hp} {bp : List (Nat × Addr)} {σ : St} {ρ : Env} {ow : Nat → List Addr}
theorem SL.out (S : SL K F Hk H ow σ ρ) {i : Nat} (h : ρ.length ≤ i) : ow i = [] := by
  cases e : ow i with
  | nil => rfl
  | cons a r => exact absurd (S.w i (by rw [e]; simp)) (by omega)
theorem SL.fresh (S : SL K F Hk H ow σ ρ) {p : Addr} (h : H p = none) (i : Nat) : p ∉ ow i := fun m => by
  obtain ⟨_, _, o, e⟩ := S.f i p m
  rw [h] at e; cases e
theorem SL.step (S : SL K F Hk H ow σ ρ) (e : Ex Hk Hk') (k : ∀ i, ∀ a ∈ ow i, H' a = H a ∧ Hk' a = none) : SL K F Hk' H' ow σ ρ := by
  refine ⟨fun i x h => ?_, fun i a h => ?_, S.w, S.d⟩
  · obtain ⟨v, ev, o⟩ := S.s i x h
    exact ⟨v, ev, o.move e fun a ha u hu => by rw [(k i a ha).1]; exact hu⟩
  · obtain ⟨f1, f2, o, f3⟩ := S.f i a h
    exact ⟨(k i a h).2, f2, o, by rw [(k i a h).1]; exact f3⟩
theorem SL.set (S : SL K F Hk H ow σ ρ) (hl : σ.length = ρ.length) {i : Nat} {x : MV} {v : V} (hi : i < ρ.length) (r : RV K Hk x v) : SL K F Hk H (put ow i []) (σ.set i (some v)) (ρ.set i (some x)) := by
  refine ⟨fun j y h => ?_, fun j a h => ?_, fun j h => ?_, fun j k a hjk h => ?_⟩
  · rcases set_get h with ⟨rfl, e⟩ | ⟨ne, e⟩
    · cases e
      refine ⟨v, by rw [List.getElem?_set_self (by rw [hl]; exact hi)], ?_⟩
      rw [put_same]; exact r.ov
    · obtain ⟨u, e1, e2⟩ := S.s j y e
      exact ⟨u, by rw [List.getElem?_set_ne (Ne.symm ne)]; exact e1, by rw [put_ne ne]; exact e2⟩
  · by_cases e : j = i
    · rw [e, put_same] at h; cases h
    · rw [put_ne e] at h; exact S.f j a h
  · by_cases e : j = i
    · rw [e, put_same] at h; exact (h rfl).elim
    · rw [put_ne e] at h; rw [List.length_set]; exact S.w j h
  · by_cases e : j = i
    · rw [e, put_same] at h; cases h
    · rw [put_ne e] at h
      by_cases e2 : k = i
      · rw [e2, put_same]; simp
      · rw [put_ne e2]; exact S.d j k a hjk h
theorem SL.push (S : SL K F Hk H ow σ ρ) (hl : σ.length = ρ.length) {x : MV} {v : V} {A : List Addr} (o : OV K Hk H x v A) (hf : ∀ a ∈ A, Hk a = none ∧ F a = none) (hd : ∀ i, ∀ a ∈ A, a ∉ ow i) :
    SL K F Hk H (put ow ρ.length A) (σ ++ [some v]) (ρ ++ [some x]) := by
  refine ⟨fun j y h => ?_, fun j a h => ?_, fun j h => ?_, fun j k a hjk h => ?_⟩
  · rcases app_get h with ⟨rfl, e⟩ | ⟨lt, e⟩
    · cases e
      refine ⟨v, by rw [← hl]; simp, ?_⟩
      rw [put_same]; exact o
    · obtain ⟨u, e1, e2⟩ := S.s j y e
      exact ⟨u, by rw [List.getElem?_append_left (by rw [hl]; exact lt)]; exact e1, by rw [put_ne (Nat.ne_of_lt lt)]; exact e2⟩
  · by_cases e : j = ρ.length
    · rw [e, put_same] at h; exact ⟨(hf a h).1, (hf a h).2, o.there a h⟩
    · rw [put_ne e] at h; exact S.f j a h
  · by_cases e : j = ρ.length
    · rw [e]; simp
    · rw [put_ne e] at h; have := S.w j h; simp; omega
  · by_cases e : j = ρ.length
    · rw [e, put_same] at h
      rw [put_ne (fun z => hjk (e.trans z.symm))]
      exact hd k a h
    · rw [put_ne e] at h
      by_cases e2 : k = ρ.length
      · rw [e2, put_same]; exact fun z => hd j a z h
      · rw [put_ne e2]; exact S.d j k a hjk h
theorem SL.take (S : SL K F Hk H ow (σ ++ [some v]) (ρ ++ [some x])) (hl : σ.length = ρ.length) {i : Nat} (hi : i < ρ.length) : SL K F Hk H (put (put ow i (ow ρ.length)) ρ.length []) (σ.set i (some v)) (ρ.set i (some x)) := by
  have ne : i ≠ ρ.length := Nat.ne_of_lt hi
  obtain ⟨u, hu, ou⟩ := S.s ρ.length x (by simp)
  have ev : u = v := by rw [← hl] at hu; simpa using hu.symm
  subst ev
  have lt : ∀ j a, a ∈ put (put ow i (ow ρ.length)) ρ.length [] j → (j = i ∧ a ∈ ow ρ.length) ∨ (j ≠ i ∧ j < ρ.length ∧ a ∈ ow j) := fun j a h => by
    by_cases e : j = ρ.length
    · rw [e, put_same] at h; cases h
    · rw [put_ne e] at h
      by_cases e2 : j = i
      · rw [e2, put_same] at h; exact .inl ⟨e2, h⟩
      · rw [put_ne e2] at h
        have := S.w j (by intro z; rw [z] at h; cases h)
        simp at this
        exact .inr ⟨e2, by omega, h⟩
  refine ⟨fun j y h => ?_, fun j a h => ?_, fun j h => ?_, fun j k a hjk h => ?_⟩
  · rcases set_get h with ⟨rfl, e⟩ | ⟨ne2, e⟩
    · cases e
      refine ⟨u, by rw [List.getElem?_set_self (by rw [hl]; exact hi)], ?_⟩
      rw [put_ne ne, put_same]; exact ou
    · have lj := lt_get e
      obtain ⟨w, e1, e2⟩ := S.s j y (by rw [List.getElem?_append_left lj]; exact e)
      rw [List.getElem?_append_left (by rw [hl]; exact lj)] at e1
      exact ⟨w, by rw [List.getElem?_set_ne (Ne.symm ne2)]; exact e1, by rw [put_ne (Nat.ne_of_lt lj), put_ne ne2]; exact e2⟩
  · rcases lt j a h with ⟨_, m⟩ | ⟨_, _, m⟩
    · exact S.f _ a m
    · exact S.f _ a m
  · rw [List.length_set]
    cases e : put (put ow i (ow ρ.length)) ρ.length [] j with
    | nil => exact (h e).elim
    | cons a r =>
      rcases lt j a (by rw [e]; simp) with ⟨e, _⟩ | ⟨_, l, _⟩
      · rw [e]; exact hi
      · exact l
  · intro hk
    rcases lt j a h with ⟨e1, m⟩ | ⟨e1, l1, m⟩ <;> rcases lt k a hk with ⟨e2, m2⟩ | ⟨e2, l2, m2⟩
    · exact hjk (e1.trans e2.symm)
    · exact S.d ρ.length k a (by omega) m m2
    · exact S.d j ρ.length a (by omega) m m2
    · exact S.d j k a hjk m m2
theorem SL.drop (S : SL K F Hk H ow (σ ++ [y]) (ρ ++ [x])) (hl : σ.length = ρ.length) : SL K F Hk H (put ow ρ.length []) σ ρ := by
  refine ⟨fun j y h => ?_, fun j a h => ?_, fun j h => ?_, fun j k a hjk h => ?_⟩
  · have lj := lt_get h
    obtain ⟨w, e1, e2⟩ := S.s j y (by rw [List.getElem?_append_left lj]; exact h)
    rw [List.getElem?_append_left (by rw [hl]; exact lj)] at e1
    exact ⟨w, e1, by rw [put_ne (Nat.ne_of_lt lj)]; exact e2⟩
  · by_cases e : j = ρ.length
    · rw [e, put_same] at h; cases h
    · rw [put_ne e] at h; exact S.f j a h
  · by_cases e : j = ρ.length
    · rw [e, put_same] at h; exact (h rfl).elim
    · rw [put_ne e] at h; have := S.w j h; simp at this; omega
  · by_cases e : j = ρ.length
    · rw [e, put_same] at h; cases h
    · rw [put_ne e] at h
      by_cases e2 : k = ρ.length
      · rw [e2, put_same]; simp
      · rw [put_ne e2]; exact S.d j k a hjk h
theorem RS.get (S : RS K F Hk H bp σ ρ) {i : Nat} {x : MV} (h : ρ[i]? = some (some x)) (hp : x.per = true) : ∃ v, σ[i]? = some (some v) ∧ RV K Hk x v := by
  obtain ⟨ow, s⟩ := S.ow
  obtain ⟨v, e, o⟩ := s.s i x h
  exact ⟨v, e, ((OV.per hp).mp o).2⟩
theorem RS.getOwn (S : RS K F Hk H bp σ ρ) {i : Nat} {xs : List MV} (h : ρ[i]? = some (some (.own xs))) : ∃ p vs, σ[i]? = some (some (.ref p)) ∧ H p = some (.lst vs) ∧ RVs K Hk xs vs ∧ Hk p = none ∧ F p = none := by
  obtain ⟨ow, s⟩ := S.ow
  obtain ⟨v, e, o⟩ := s.s i _ h
  obtain ⟨p, vs, e1, e2, e3, e4⟩ := OV.own.mp o
  have m : p ∈ ow i := by rw [e2]; simp
  exact ⟨p, vs, by rw [e, e1], e3, e4, (s.f i p m).1, (s.f i p m).2.1⟩
theorem RS.step (S : RS K F Hk H bp σ ρ) (e : Ex Hk Hk') (e' : Ex Hk' H') (k : ∀ a o, Hk a = none → H a = some o → H' a = some o ∧ Hk' a = none) : RS K F Hk' H' bp σ ρ := by
  obtain ⟨ow, s⟩ := S.ow
  refine ⟨S.len, e', fun a o h => (k a o (S.frk a o h) (S.fr a o h)).1, fun a o h => (k a o (S.frk a o h) (S.fr a o h)).2, ⟨ow, s.step e fun i a h => ?_⟩, S.bor⟩
  obtain ⟨f1, _, o, f2⟩ := s.f i a h
  exact ⟨((k a o f1 f2).1).trans f2.symm, (k a o f1 f2).2⟩
theorem RS.new (S : RS K F Hk H bp σ ρ) {p : Addr} {o : HO} (h : H p = none) : RS K F (upd Hk p o) (upd H p o) bp σ ρ :=
  S.step (Ex.new (S.ex.back h)) (S.ex.both h) fun a u hk ha => by
    have ne := ne_of_none ha h
    rw [upd_ne ne, upd_ne ne]
    exact ⟨ha, hk⟩
theorem RS.more (S : RS K F Hk H bp σ ρ) {p : Addr} {o : HO} (h : H p = none) : RS K F Hk (upd H p o) bp σ ρ :=
  S.step (Ex.refl _) (S.ex.mut (S.ex.back h)) fun a u hk ha => by
    rw [upd_ne (ne_of_none ha h)]
    exact ⟨ha, hk⟩
theorem RS.set (S : RS K F Hk H bp σ ρ) {i : Nat} {x : MV} {v : V} (hi : i < ρ.length) (r : RV K Hk x v) (hb : ∀ q ∈ bp, q.1 ≠ i) : RS K F Hk H bp (σ.set i (some v)) (ρ.set i (some x)) := by
  obtain ⟨ow, s⟩ := S.ow
  exact ⟨by simp [S.len], S.ex, S.fr, S.frk, ⟨_, s.set S.len hi r⟩, fun q hq => by rw [List.getElem?_set_ne (Ne.symm (hb q hq))]; exact S.bor q hq⟩
theorem RS.bor_app (S : RS K F Hk H bp σ ρ) (y : Option V) : ∀ q ∈ bp, (σ ++ [y])[q.1]? = some (some (.ref q.2)) := fun q hq => by
  have q1 := S.bor q hq
  rw [List.getElem?_append_left (lt_get q1)]; exact q1
theorem RS.push (S : RS K F Hk H bp σ ρ) {x : MV} {v : V} (r : RV K Hk x v) : RS K F Hk H bp (σ ++ [some v]) (ρ ++ [some x]) := by
  obtain ⟨ow, s⟩ := S.ow
  exact ⟨by simp [S.len], S.ex, S.fr, S.frk, ⟨_, s.push S.len r.ov (fun _ h => nomatch h) (fun _ _ h => nomatch h)⟩, S.bor_app _⟩
theorem RS.pushOwn (S : RS K F Hk H bp σ ρ) {p : Addr} {xs : List MV} {vs : List V} (h : H p = none) (r : RVs K Hk xs vs) : RS K F Hk (upd H p (.lst vs)) bp (σ ++ [some (.ref p)]) (ρ ++ [some (.own xs)]) := by
  obtain ⟨ow, s⟩ := S.ow
  have S' := S.more (o := .lst vs) h
  have s' : SL K F Hk (upd H p (.lst vs)) ow σ ρ := s.step (Ex.refl _) fun i a ha => by
    obtain ⟨f1, f2, o, f3⟩ := s.f i a ha
    exact ⟨upd_ne (ne_of_none f3 h), f1⟩
  have fp : F p = none := by
    cases e : F p with
    | none => rfl
    | some o => have := S.fr p o e; rw [h] at this; cases this
  refine ⟨by simp [S.len], S'.ex, S'.fr, S'.frk, ⟨_, s'.push S.len (A := [p]) (OV.own.mpr ⟨p, vs, rfl, rfl, upd_same, r⟩) (fun a ha => ?_) (fun i a ha => ?_)⟩, S.bor_app _⟩
  · simp at ha; subst ha; exact ⟨S.ex.back h, fp⟩
  · simp at ha; subst ha; exact s.fresh h i
theorem RS.take {v : V} {x : MV} (S : RS K F Hk H bp (σ ++ [some v]) (ρ ++ [some x])) {i : Nat} (hi : i < ρ.length) (hb : ∀ q ∈ bp, q.1 ≠ i ∧ q.1 < ρ.length) : RS K F Hk H bp (σ.set i (some v)) (ρ.set i (some x)) := by
  obtain ⟨ow, s⟩ := S.ow
  have hl : σ.length = ρ.length := by have := S.len; simpa using this
  refine ⟨by simp [hl], S.ex, S.fr, S.frk, ⟨_, s.take hl hi⟩, fun q hq => ?_⟩
  have q1 := S.bor q hq
  rw [List.getElem?_append_left (by rw [hl]; exact (hb q hq).2)] at q1
  rw [List.getElem?_set_ne (Ne.symm (hb q hq).1)]; exact q1
theorem RS.drop {y : Option V} {x : Option MV} (S : RS K F Hk H bp (σ ++ [y]) (ρ ++ [x])) (hb : ∀ q ∈ bp, q.1 < ρ.length) : RS K F Hk H bp σ ρ := by
  obtain ⟨ow, s⟩ := S.ow
  have hl : σ.length = ρ.length := by have := S.len; simpa using this
  refine ⟨hl, S.ex, S.fr, S.frk, ⟨_, s.drop hl⟩, fun q hq => ?_⟩
  have q1 := S.bor q hq
  rw [List.getElem?_append_left (by rw [hl]; exact hb q hq)] at q1
  exact q1
theorem RS.freeze (S : RS K F Hk H bp σ ρ) {i : Nat} {xs : List MV} (h : ρ[i]? = some (some (.own xs))) :
    ∃ p vs, σ[i]? = some (some (.ref p)) ∧ Ex Hk (upd Hk p (.lst vs)) ∧ RV K (upd Hk p (.lst vs)) (.lst xs) (.ref p) ∧ RS K F (upd Hk p (.lst vs)) H bp σ (ρ.set i (some (.lst xs))) := by
  obtain ⟨ow, s⟩ := S.ow
  obtain ⟨v, ev, o⟩ := s.s i _ h
  obtain ⟨p, vs, e1, e2, e3, e4⟩ := OV.own.mp o
  have m : p ∈ ow i := by rw [e2]; simp
  obtain ⟨f1, f2, _⟩ := s.f i p m
  have ex : Ex Hk (upd Hk p (.lst vs)) := Ex.new f1
  have rv : RV K (upd Hk p (.lst vs)) (.lst xs) (.ref p) := RV.lst.mpr ⟨p, vs, rfl, upd_same, e4.mono ex⟩
  have li := lt_get h
  refine ⟨p, vs, by rw [ev, e1], ex, rv, by simp [S.len], S.ex.updL e3, S.fr, fun a u ha => ?_, ⟨put ow i [], ?_⟩, S.bor⟩
  · rw [upd_ne (ne_of_none ha f2)]; exact S.frk a u ha
  · refine ⟨fun j y hj => ?_, fun j a hj => ?_, fun j hj => ?_, fun j k a hjk hj => ?_⟩
    · rcases set_get hj with ⟨rfl, e⟩ | ⟨ne, e⟩
      · cases e
        exact ⟨v, ev, by rw [put_same, e1]; exact rv.ov⟩
      · obtain ⟨u, u1, u2⟩ := s.s j y e
        exact ⟨u, u1, by rw [put_ne ne]; exact u2.move ex fun _ _ _ z => z⟩
    · by_cases e : j = i
      · rw [e, put_same] at hj; cases hj
      · rw [put_ne e] at hj
        obtain ⟨g1, g2⟩ := s.f j a hj
        refine ⟨?_, g2⟩
        rw [upd_ne (fun z => s.d j i a e hj (by rw [z]; exact m))]; exact g1
    · by_cases e : j = i
      · rw [e, put_same] at hj; exact (hj rfl).elim
      · rw [put_ne e] at hj; rw [List.length_set]; exact s.w j hj
    · by_cases e : j = i
      · rw [e, put_same] at hj; cases hj
      · rw [put_ne e] at hj
        by_cases e2 : k = i
        · rw [e2, put_same]; simp
        · rw [put_ne e2]; exact s.d j k a hjk hj
theorem RS.change (S : RS K F Hk H bp σ ρ) {i : Nat} {xs ys : List MV} (h : ρ[i]? = some (some (.own xs))) :
    ∃ p vs, σ[i]? = some (some (.ref p)) ∧ H p = some (.lst vs) ∧ RVs K Hk xs vs ∧ ∀ ws, RVs K Hk ys ws → RS K F Hk (upd H p (.lst ws)) bp σ (ρ.set i (some (.own ys))) := by
  obtain ⟨ow, s⟩ := S.ow
  obtain ⟨v, ev, o⟩ := s.s i _ h
  obtain ⟨p, vs, e1, e2, e3, e4⟩ := OV.own.mp o
  have m : p ∈ ow i := by rw [e2]; simp
  obtain ⟨f1, f2, _⟩ := s.f i p m
  refine ⟨p, vs, by rw [ev, e1], e3, e4, fun ws r => ⟨by simp [S.len], S.ex.mut f1, S.fr.mut f2, S.frk, ⟨ow, ?_⟩, S.bor⟩⟩
  refine ⟨fun j y hj => ?_, fun j a hj => ?_, fun j hj => by rw [List.length_set]; exact s.w j hj, s.d⟩
  · rcases set_get hj with ⟨rfl, e⟩ | ⟨ne, e⟩
    · cases e
      exact ⟨v, ev, OV.own.mpr ⟨p, ws, e1, e2, upd_same, r⟩⟩
    · obtain ⟨u, u1, u2⟩ := s.s j y e
      exact ⟨u, u1, u2.move (Ex.refl _) fun a ha o ho => by rw [upd_ne (fun z => s.d j i a ne ha (by rw [z]; exact m))]; exact ho⟩
  · obtain ⟨g1, g2, o, g3⟩ := s.f j a hj
    by_cases e : a = p
    · subst e; exact ⟨g1, g2, _, upd_same⟩
    · exact ⟨g1, g2, o, by rw [upd_ne e]; exact g3⟩
end
end Tm
set_option Elab.async false
set_option linter.all false
set_option maxRecDepth 100000
set_option maxHeartbeats 2000000
namespace Tm
open PySem L2
open Evl (Ex ex_rd ex_l ex_t)
structure Ct where
  K : PySem.W.Frag
  mg : Str → Option Value
  W : WX
  bs : List Nat
  J : Hp → List (Nat × Addr) → Prop
  Jm : ∀ F F1 bp, Ex F F1 → J F bp → J F1 bp
def XFs (K : PySem.W.Frag) (H : Hp) : List (Str × MV) → List (Str × V) → Prop
  | [], vs => vs = []
  | (n, x) :: xs, vs => ∃ v r, vs = (n, v) :: r ∧ RV K H x v ∧ XFs K H xs r
def ExR (K : PySem.W.Frag) (mg : Str → Option Value) (H : Hp) (e : MX) (cls : Value) (d : Option Addr) : Prop :=
  ∃ C, mg e.cls = some (.ref C) ∧ cls = .ref C ∧ ((e.fs = [] ∧ d = none) ∨ ∃ dx vfs, d = some dx ∧ H dx = some (.xd vfs) ∧ XFs K H e.fs vfs)
theorem XFs.mono {K : PySem.W.Frag} {H H' : Hp} (e : Ex H H') : ∀ {xs : List (Str × MV)} {vs : List (Str × V)}, XFs K H xs vs → XFs K H' xs vs
  | [], _, h => h
  | (n, x) :: xs, vs, h => by
    obtain ⟨v, r, e1, e2, e3⟩ := h
    exact ⟨v, r, e1, RV.mono e _ _ e2, XFs.mono e e3⟩
theorem ExR.mono {K : PySem.W.Frag} {mg : Str → Option Value} {H H' : Hp} {e : MX} {cls : Value} {d : Option Addr} (x : Ex H H') (h : ExR K mg H e cls d) : ExR K mg H' e cls d := by
  obtain ⟨C, h1, h2, h3⟩ := h
  refine ⟨C, h1, h2, ?_⟩
  rcases h3 with h3 | ⟨dx, vfs, a, b, c⟩
  · exact .inl h3
  · exact .inr ⟨dx, vfs, a, x _ _ b, c.mono x⟩
abbrev ME := Env → Res (MV × Env)
abbrev MT := Env → Res (Bool × Env)
abbrev MA := Env → Res (List MV × Env)
abbrev MS := Env → Res (Fl × Env)
def Wish (c : Ct) (F Hk : Hp) (bp : List (Nat × Addr)) (σ : St) (e : MX) (ρ : Env) : Prop :=
  ∀ Hk' H' cls d, Ex Hk Hk' → RS c.K F Hk' H' bp σ ρ → ExR c.K c.mg Hk' e cls d → c.W cls d σ H'
def okE (c : Ct) (F Hk : Hp) (bp : List (Nat × Addr)) (σ : St) (Q : VK) : Res (MV × Env) → Prop
  | .ok (x, ρ') => ∀ Hk' H' v, Ex Hk Hk' → RS c.K F Hk' H' bp σ ρ' → RV c.K Hk' x v → Q v H'
  | .exc e ρ' => Wish c F Hk bp σ e ρ'
  | .stuck => False
def okO (c : Ct) (F Hk : Hp) (bp : List (Nat × Addr)) (σ : St) (Q : VK) : Res (MV × Env) → Prop
  | .ok (x, ρ') => ∀ Hk' H' v, Ex Hk Hk' → RS c.K F Hk' H' bp (σ ++ [some v]) (ρ' ++ [some x]) → Q v H'
  | .exc e ρ' => Wish c F Hk bp σ e ρ'
  | .stuck => False
def okT (c : Ct) (F Hk : Hp) (bp : List (Nat × Addr)) (σ : St) (Q : Bool → Hp → Prop) : Res (Bool × Env) → Prop
  | .ok (x, ρ') => ∀ Hk' H', Ex Hk Hk' → RS c.K F Hk' H' bp σ ρ' → Q x H'
  | .exc e ρ' => Wish c F Hk bp σ e ρ'
  | .stuck => False
def okA (c : Ct) (F Hk : Hp) (bp : List (Nat × Addr)) (σ : St) (Q : List V → Hp → Prop) : Res (List MV × Env) → Prop
  | .ok (xs, ρ') => ∀ Hk' H' vs, Ex Hk Hk' → RS c.K F Hk' H' bp σ ρ' → RVs c.K Hk' xs vs → Q vs H'
  | .exc e ρ' => Wish c F Hk bp σ e ρ'
  | .stuck => False
def okS (c : Ct) (F Hk : Hp) (bp : List (Nat × Addr)) (D : Ends) : Res (Fl × Env) → Prop
  | .ok (.nx, ρ') => ∀ Hk' H' σ', Ex Hk Hk' → RS c.K F Hk' H' bp σ' ρ' → D.nx σ' H'
  | .ok (.br, ρ') => ∀ Hk' H' σ', Ex Hk Hk' → RS c.K F Hk' H' bp σ' ρ' → D.bk σ' H'
  | .ok (.ct, ρ') => ∀ Hk' H' σ', Ex Hk Hk' → RS c.K F Hk' H' bp σ' ρ' → D.ct σ' H'
  | .ok (.rt x, ρ') => ∀ Hk' H' σ' v, Ex Hk Hk' → (∀ q ∈ bp, q.1 < σ'.length) → RS c.K F Hk' H' bp (σ' ++ [some v]) (ρ' ++ [some x]) → D.rt v H'
  | .exc e ρ' => ∀ Hk' H' σ' cls d, Ex Hk Hk' → RS c.K F Hk' H' bp σ' ρ' → ExR c.K c.mg Hk' e cls d → c.W cls d σ' H'
  | .stuck => False
def At (c : Ct) (F Hk H : Hp) (bp : List (Nat × Addr)) (σ : St) (ρ : Env) : Prop := RS c.K F Hk H bp σ ρ ∧ bp.map (·.1) = c.bs ∧ c.J F bp
def rdE (c : Ct) (m : ME) : TE := fun σ H Q => ∃ F Hk bp ρ, At c F Hk H bp σ ρ ∧ okE c F Hk bp σ Q (m ρ)
def rdO (c : Ct) (m : ME) : TE := fun σ H Q => ∃ F Hk bp ρ, At c F Hk H bp σ ρ ∧ okO c F Hk bp σ Q (m ρ)
def rdT (c : Ct) (m : MT) : TT := fun σ H Q => ∃ F Hk bp ρ, At c F Hk H bp σ ρ ∧ okT c F Hk bp σ Q (m ρ)
def rdA (c : Ct) (m : MA) : TA := fun σ H Q => ∃ F Hk bp ρ, At c F Hk H bp σ ρ ∧ okA c F Hk bp σ Q (m ρ)
def rdS (c : Ct) (m : MS) : TS := fun D σ H => ∃ F Hk bp ρ, At c F Hk H bp σ ρ ∧ okS c F Hk bp D (m ρ)
section
variable {c : Ct} {F Hk Hk' H H' : Hp} {bp : List (Nat × Addr)} {σ : St} {ρ : Env}
theorem Wish.mono {e : MX} (x : Ex Hk Hk') (h : Wish c F Hk bp σ e ρ) : Wish c F Hk' bp σ e ρ := fun Hk2 H2 cls d x2 => h Hk2 H2 cls d (x.trans x2)
theorem okE.mono {Q : VK} {r : Res (MV × Env)} (x : Ex Hk Hk') (h : okE c F Hk bp σ Q r) : okE c F Hk' bp σ Q r := by
  cases r with
  | ok a => exact fun Hk2 H2 v x2 => h Hk2 H2 v (x.trans x2)
  | exc e ρ => exact Wish.mono x h
  | stuck => exact h
theorem okO.mono {Q : VK} {r : Res (MV × Env)} (x : Ex Hk Hk') (h : okO c F Hk bp σ Q r) : okO c F Hk' bp σ Q r := by
  cases r with
  | ok a => exact fun Hk2 H2 v x2 => h Hk2 H2 v (x.trans x2)
  | exc e ρ => exact Wish.mono x h
  | stuck => exact h
theorem okT.mono {Q : Bool → Hp → Prop} {r : Res (Bool × Env)} (x : Ex Hk Hk') (h : okT c F Hk bp σ Q r) : okT c F Hk' bp σ Q r := by
  cases r with
  | ok a => exact fun Hk2 H2 x2 => h Hk2 H2 (x.trans x2)
  | exc e ρ => exact Wish.mono x h
  | stuck => exact h
theorem okA.mono {Q : List V → Hp → Prop} {r : Res (List MV × Env)} (x : Ex Hk Hk') (h : okA c F Hk bp σ Q r) : okA c F Hk' bp σ Q r := by
  cases r with
  | ok a => exact fun Hk2 H2 v x2 => h Hk2 H2 v (x.trans x2)
  | exc e ρ => exact Wish.mono x h
  | stuck => exact h
theorem okS.mono {D : Ends} {r : Res (Fl × Env)} (x : Ex Hk Hk') (h : okS c F Hk bp D r) : okS c F Hk' bp D r := by
  cases r with
  | ok a =>
    obtain ⟨f, ρ'⟩ := a
    cases f with
    | nx => exact fun Hk2 H2 σ' x2 => h Hk2 H2 σ' (x.trans x2)
    | br => exact fun Hk2 H2 σ' x2 => h Hk2 H2 σ' (x.trans x2)
    | ct => exact fun Hk2 H2 σ' x2 => h Hk2 H2 σ' (x.trans x2)
    | rt y => exact fun Hk2 H2 σ' v x2 => h Hk2 H2 σ' v (x.trans x2)
  | exc e ρ' => exact fun Hk2 H2 σ' cls d x2 => h Hk2 H2 σ' cls d (x.trans x2)
  | stuck => exact h
def Res.bind {α β : Type} (r : Res (α × Env)) (f : α → Env → Res (β × Env)) : Res (β × Env) :=
  match r with
  | .ok (x, ρ) => f x ρ
  | .exc e ρ => .exc e ρ
  | .stuck => .stuck
end
theorem PEw {X : Cx} {e : Expr} {t t' : TE} (h : PE X e t) (w : ∀ σ H Q, t' σ H Q → t σ H Q) : PE X e t' := ⟨fun pins s σ H Q I q => h.run pins s σ H Q I (w σ H Q q)⟩
theorem PTw {X : Cx} {e : Expr} {t t' : TT} (h : PT X e t) (w : ∀ σ H Q, t' σ H Q → t σ H Q) : PT X e t' := ⟨fun pins s σ H Q I q => h.run pins s σ H Q I (w σ H Q q)⟩
theorem PWw {X : Cx} {e : Expr} {t t' : TT} (h : PW X e t) (w : ∀ σ H Q, t' σ H Q → t σ H Q) : PW X e t' := ⟨fun wh pins s σ H Q I q => h.run wh pins s σ H Q I (w σ H Q q)⟩
theorem PAw {X : Cx} {e : List Expr} {t t' : TA} (h : PA X e t) (w : ∀ σ H Q, t' σ H Q → t σ H Q) : PA X e t' := ⟨fun pos pins s σ H Q I q => h.run pos pins s σ H Q I (w σ H Q q)⟩
theorem PSw {X : Cx} {e : Stmt} {t t' : TS} (h : PS X e t) (w : ∀ D σ H, t' D σ H → t D σ H) : PS X e t' := ⟨fun pins s σ H D I q => h.run pins s σ H D I (w D σ H q)⟩
theorem PSsw {X : Cx} {e : List Stmt} {t t' : TS} (h : PSs X e t) (w : ∀ D σ H, t' D σ H → t D σ H) : PSs X e t' := ⟨fun pins s σ H D I q => h.run pins s σ H D I (w D σ H q)⟩
section
variable {X : Cx} {c : Ct}
def mVar (i : Nat) : ME := fun ρ => match ρ[i]? with
  | some (some (.own xs)) => .ok (.lst xs, ρ.set i (some (.lst xs)))
  | some (some (.obj _ _)) => .stuck
  | some (some (.dow _ _)) => .stuck
  | some (some (.dot _ _)) => .stuck
  | some (some (.ols _)) => .stuck
  | some (some x) => .ok (x, ρ)
  | _ => .stuck
def mC (x : MV) : ME := fun ρ => .ok (x, ρ)
theorem rd_var {i : Nat} {σ : St} {H : Hp} {Q : VK} (h : rdE c (mVar i) σ H Q) : tVar i σ H Q := by
  obtain ⟨F, Hk, bp, ρ, ⟨S, _⟩, h⟩ := h
  have pl : ∀ x : MV, x.per = true → ρ[i]? = some (some x) → (∀ Hk' H' v, Ex Hk Hk' → RS c.K F Hk' H' bp σ ρ → RV c.K Hk' x v → Q v H') → tVar i σ H Q := fun x px e q => by
    obtain ⟨v, ev, r⟩ := S.get e px
    exact ⟨v, ev, q Hk H v (Ex.refl _) S r⟩
  unfold mVar at h
  split at h
  · rename_i xs e
    obtain ⟨p, vs, e1, ex, r, S'⟩ := S.freeze e
    exact ⟨_, e1, h _ _ _ ex S' r⟩
  · exact h.elim
  · exact h.elim
  · exact h.elim
  · exact h.elim
  · rename_i x n1 n2 n3 n4 n5 e
    refine pl x ?_ e h
    cases x <;> first | rfl | (exfalso; first | exact n1 _ rfl | exact n2 _ _ rfl | exact n3 _ _ rfl | exact n4 _ _ rfl | exact n5 _ rfl)
  · exact h.elim
theorem me_var {i : Nat} {x : Str} {pos : Pos} (hN : X.N[i]? = some x) (hv : Vis X.env.scope x) (hd : (x == ("__debug__" : Str)) = false := by decide) (hcd : (x == ("__classdict__" : Str)) = false := by decide) : PE X (.Name x pos) (rdE c (mVar i)) :=
  PEw (pe_var hN hv hd hcd) fun _ _ _ h => rd_var h
theorem rd_c {x : MV} {v : V} (r : ∀ H, RV c.K H x v) {σ : St} {H : Hp} {Q : VK} (h : rdE c (mC x) σ H Q) : tC v σ H Q := by
  obtain ⟨F, Hk, bp, ρ, ⟨S, _⟩, h⟩ := h
  exact h Hk H v (Ex.refl _) S (r _)
theorem me_int {i j pos} : PE X (.Constant (.int i) j pos) (rdE c (mC (.int i))) := PEw pe_int fun _ _ _ h => rd_c (fun _ => RV.int.mpr rfl) h
theorem me_bl {b j pos} : PE X (.Constant (.bool b) j pos) (rdE c (mC (.bl b))) := PEw pe_bl fun _ _ _ h => rd_c (fun _ => RV.bl.mpr rfl) h
theorem me_non {j pos} : PE X (.Constant .none j pos) (rdE c (mC .non)) := PEw pe_non fun _ _ _ h => rd_c (fun _ => RV.non.mpr rfl) h
theorem me_str {x j pos} : PE X (.Constant (.str x) j pos) (rdE c (mC (.str x))) := PEw pe_str fun _ _ _ h => rd_c (fun _ => RV.str.mpr rfl) h
def mOp (f : MV → MV → Option MV) (a b : ME) : ME := fun ρ => (a ρ).bind fun x ρ1 => (b ρ1).bind fun y ρ2 => match f x y with | some z => .ok (z, ρ2) | none => .stuck
def OpS (K : PySem.W.Frag) (f : MV → MV → Option MV) (r : R2) : Prop := ∀ (x y z : MV) (v w : V) (Hk H : Hp) (Q : VK), f x y = some z → Ex Hk H → RV K Hk x v → RV K Hk y w → (∀ u, RV K Hk z u → Q u H) →
  (∀ p o, H p = none → RV K (upd Hk p o) z (.ref p) → Q (.ref p) (upd H p o)) → r v w H Q
theorem rd_op {f : MV → MV → Option MV} {r : R2} (o : OpS c.K f r) {a b : ME} {σ : St} {H : Hp} {Q : VK} (h : rdE c (mOp f a b) σ H Q) : tOp r (rdE c a) (rdE c b) σ H Q := by
  obtain ⟨F, Hk, bp, ρ, ⟨S, eb⟩, h⟩ := h
  refine ⟨F, Hk, bp, ρ, ⟨S, eb⟩, ?_⟩
  unfold mOp at h
  cases ea : a ρ with
  | stuck => rw [ea] at h; exact h.elim
  | exc e ρ' => rw [ea] at h; exact h
  | ok p =>
    obtain ⟨x, ρ1⟩ := p
    rw [ea] at h
    intro Hk1 H1 v x1 S1 r1
    refine ⟨F, Hk1, bp, ρ1, ⟨S1, eb⟩, ?_⟩
    have h : okE c F Hk bp σ Q ((b ρ1).bind fun y ρ2 => match f x y with | some z => .ok (z, ρ2) | none => .stuck) := h
    cases e2 : b ρ1 with
    | stuck => rw [e2] at h; exact h.elim
    | exc e ρ' => rw [e2] at h; exact Wish.mono x1 h
    | ok p =>
      obtain ⟨y, ρ2⟩ := p
      rw [e2] at h
      intro Hk2 H2 w x2 S2 r2
      have h : okE c F Hk bp σ Q (match f x y with | some z => .ok (z, ρ2) | none => .stuck) := h
      cases ez : f x y with
      | none => rw [ez] at h; exact h.elim
      | some z =>
        rw [ez] at h
        refine o x y z v w Hk2 H2 Q ez S2.ex (RV.mono x2 _ _ r1) r2 (fun u ru => h Hk2 H2 u (x1.trans x2) S2 ru) fun p ob hp ru => ?_
        exact h _ _ _ ((x1.trans x2).trans (Ex.new (S2.ex.back hp))) (S2.new hp) ru
theorem me_op {op : Operator} {f : MV → MV → Option MV} {r : R2} {a b : Expr} {ma mb : ME} {pos : Pos} (ho : OpR X (binaryOp op) r) (o : OpS c.K f r) (ha : PE X a (rdE c ma)) (hb : PE X b (rdE c mb)) : PE X (.BinOp a op b pos) (rdE c (mOp f ma mb)) :=
  PEw (pe_op ho ha hb) fun _ _ _ h => rd_op o h
theorem me_cmp {op : CmpOp} {f : MV → MV → Option MV} {r : R2} {a b : Expr} {ma mb : ME} {pos : Pos} (ho : OpR X (compareOp op) r) (o : OpS c.K f r) (ha : PE X a (rdE c ma)) (hb : PE X b (rdE c mb)) (hm : behindInMarks op b = false) : PE X (.Compare a [op] [b] pos) (rdE c (mOp f ma mb)) :=
  PEw (pe_cmpR ho ha hb hm) fun _ _ _ h => rd_op o h
end
end Tm
set_option Elab.async false
set_option linter.all false
set_option maxRecDepth 100000
set_option maxHeartbeats 2000000
namespace Tm
open PySem L2
open Evl (Ex ex_rd ex_l ex_t)
def szOk (n : Nat) : Bool := decide (n ≤ sizeLine)
def fAdd : MV → MV → Option MV
  | .int i, .int j => some (.int (i + j))
  | .int i, .bl b => some (.int (i + PyProof.Rows.b2i b))
  | .str a, .str b => if szOk (a.length + b.length) then some (.str (a ++ b)) else none
  | .lst a, .lst b => if szOk (a.length + b.length) then some (.lst (a ++ b)) else none
  | .tup a, .tup b => if szOk (a.length + b.length) then some (.tup (a ++ b)) else none
  | _, _ => none
def fSub : MV → MV → Option MV
  | .int i, .int j => some (.int (i - j))
  | _, _ => none
def mulOk (i j : Int) : Bool := (decide (-(2 ^ 64) < i) && decide (i < 2 ^ 64)) || (decide (-(2 ^ 64) < j) && decide (j < 2 ^ 64)) || decide (i.natAbs.log2 + j.natAbs.log2 < 1000000)
instance (i j : Int) : Decidable (CMulW i j) := inferInstanceAs (Decidable (i.natAbs.log2 + j.natAbs.log2 < 1000000))
def repS (a : Str) (k : Int) : Str := ⟨(List.replicate k.toNat a.cps.toList).flatten.toArray⟩
def fMul : MV → MV → Option MV
  | .int i, .int j => if mulOk i j then some (.int (i * j)) else none
  | .tup a, .int k => if decide (-(2 ^ 63) ≤ k) && decide (k < 2 ^ 63) && (decide (k = 1) || a.isEmpty || (decide (2 ≤ k) && decide (k ≤ 1000) && decide (a.length ≤ 1000))) then some (.tup (List.replicate k.toNat a).flatten) else none
  | .str a, .int k => if decide (-(2 ^ 63) ≤ k) && decide (k < 2 ^ 63) && szOk (a.length * k.toNat) then some (.str (repS a k)) else none
  | .lst a, .int k => if decide (-(2 ^ 63) ≤ k) && decide (k < 2 ^ 63) && szOk (a.length * k.toNat) then some (.lst (List.replicate k.toNat a).flatten) else none
  | _, _ => none
def divOk (j : Int) : Bool := (decide (j ≠ 0) && decide (j.natAbs < 1073741824)) || (decide (0 < j) && decide (j.natAbs.log2 < 9000))
def fDiv : MV → MV → Option MV
  | .int i, .int j => if divOk j then some (.int (i.fdiv j)) else none
  | _, _ => none
def fMod : MV → MV → Option MV
  | .int i, .int j => if decide (j ≠ 0) then some (.int (i.fmod j)) else none
  | _, _ => none
def fPow : MV → MV → Option MV
  | .int i, .int j => if decide (0 ≤ j) && decide (j ≤ 1000000) && decide (i.natAbs < 2 ^ 64) then some (.int (i ^ j.toNat)) else none
  | _, _ => none
def fAnd : MV → MV → Option MV
  | .int i, .int j => some (.int (Builtin.bitAnd i j))
  | _, _ => none
def fOr : MV → MV → Option MV
  | .int i, .int j => some (.int (Builtin.bitOr i j))
  | _, _ => none
def fLt : MV → MV → Option MV
  | .int i, .int j => some (.bl (decide (i < j)))
  | _, _ => none
def fLe : MV → MV → Option MV
  | .int i, .int j => some (.bl (decide (i ≤ j)))
  | _, _ => none
def fGt : MV → MV → Option MV
  | .int i, .int j => some (.bl (decide (j < i)))
  | _, _ => none
def fGe : MV → MV → Option MV
  | .int i, .int j => some (.bl (decide (j ≤ i)))
  | _, _ => none
def MV.isN : MV → Bool
  | .non => true
  | .raw w => decide (w = .non)
  | _ => false
def fIsN : MV → MV → Option MV
  | x, .non => some (.bl x.isN)
  | _, _ => none
def scalM : MV → MV → Bool
  | .non, .non => true | .non, .int _ => true | .int _, .non => true | .non, .bl _ => true | .bl _, .non => true | .non, .str _ => true | .str _, .non => true
  | .int _, .int _ => true | .bl _, .bl _ => true | .str _, .str _ => true
  | .int _, .str _ => true | .str _, .int _ => true | .bl _, .str _ => true | .str _, .bl _ => true
  | _, _ => false
def sameM : MV → MV → Bool
  | .non, .non => true
  | .int i, .int j => decide (i = j)
  | .bl i, .bl j => decide (i = j)
  | .str i, .str j => decide (i = j)
  | _, _ => false
mutual
def toD : MV → Option PyData
  | .non => some .none
  | .bl b => some (.bool b)
  | .int i => some (.int i)
  | .str x => some (.str x)
  | .tup xs => (toDs xs).map .tuple
  | .lst xs => (toDs xs).map .list
  | _ => none
def toDs : List MV → Option (List PyData)
  | [] => some []
  | x :: xs => match toD x, toDs xs with
    | some d, some ds => some (d :: ds)
    | _, _ => none
end
def eqM (x y : MV) : Option Bool :=
  if scalM x y then some (sameM x y) else
  match toD x, toD y with
  | some d, some e => if SeqAt.shaped d && SeqAt.shaped e then some (PyData.eqv d e) else none
  | _, _ => none
def fEq (x y : MV) : Option MV := (eqM x y).map .bl
def fNe (x y : MV) : Option MV := (eqM x y).map fun b => .bl (!b)
section
variable {K : PySem.W.Frag}
def rAddM (K : PySem.W.Frag) : R2 := fun x y H Q => (rI0 fun i j => .int (i + j)) x y H Q ∨ (∃ i k, x = .int i ∧ y = .bl k ∧ Q (.int (i + PyProof.Rows.b2i k)) H) ∨ (∃ i j, x = .str i ∧ y = .str j ∧ i.length + j.length ≤ sizeLine ∧ Q (.str (i ++ j)) H) ∨ rCat x y H Q ∨ rCatA K x y H Q
theorem op_addM {X : Cx} : OpR X (binaryOp .Add) (rAddM X.K) := OpR.or op_add (OpR.or op_add_ib (OpR.or op_add_str (OpR.or op_cat op_catA)))
theorem szOk_iff {n : Nat} : szOk n = true ↔ n ≤ sizeLine := by unfold szOk; simp
theorem os_add : OpS K fAdd (rAddM K) := by
  intro x y z v w Hk H Q e ex r1 r2 q qn
  unfold fAdd at e
  split at e
  · cases e
    exact .inl ⟨_, _, RV.int.mp r1, RV.int.mp r2, q _ (RV.int.mpr rfl)⟩
  · cases e
    exact .inr (.inl ⟨_, _, RV.int.mp r1, RV.bl.mp r2, q _ (RV.int.mpr rfl)⟩)
  · split at e
    · rename_i a b h
      cases e
      exact .inr (.inr (.inl ⟨_, _, RV.str.mp r1, RV.str.mp r2, szOk_iff.mp h, q _ (RV.str.mpr rfl)⟩))
    · cases e
  · split at e
    · rename_i a b h
      cases e
      obtain ⟨p1, vs, rfl, h1, s1⟩ := RV.lst.mp r1
      obtain ⟨p2, ws, rfl, h2, s2⟩ := RV.lst.mp r2
      refine .inr (.inr (.inr (.inl ⟨p1, p2, vs, ws, rfl, rfl, ex _ _ h1, ex _ _ h2, ?_, fun p hp => qn p _ hp ?_⟩)))
      · rw [s1.length, s2.length]; exact szOk_iff.mp h
      · have z := Ex.new (o := .lst (vs ++ ws)) (ex.back hp)
        exact RV.lst.mpr ⟨p, _, rfl, upd_same, (s1.append s2).mono z⟩
    · cases e
  · split at e
    · rename_i a b h
      cases e
      obtain ⟨p1, vs, rfl, h1, s1⟩ := RV.tup.mp r1
      obtain ⟨p2, ws, rfl, h2, s2⟩ := RV.tup.mp r2
      refine .inr (.inr (.inr (.inr ⟨p1, p2, vs, ws, rfl, rfl, ex_t ex h1, ex_t ex h2, ?_, fun e0 => ?_, fun e0 e1 => ?_, fun e0 e1 p hp => qn p _ hp ?_⟩)))
      · rw [s1.length, s2.length]; exact szOk_iff.mp h
      · have z := s1.append s2
        rw [e0, List.nil_append] at z
        exact q _ (RV.tup.mpr ⟨p2, ws, rfl, h2, z⟩)
      · have z := s1.append s2
        rw [e1, List.append_nil] at z
        exact q _ (RV.tup.mpr ⟨p1, vs, rfl, h1, z⟩)
      · have z := Ex.new (o := .tup (vs ++ ws)) (ex.back hp)
        exact RV.tup.mpr ⟨p, _, rfl, SqT.of upd_same, (s1.append s2).mono z⟩
    · cases e
  · cases e
theorem os_sub : OpS K fSub (rI0 fun i j => .int (i - j)) := by
  intro x y z v w Hk H Q e ex r1 r2 q qn
  unfold fSub at e
  split at e
  · cases e; exact ⟨_, _, RV.int.mp r1, RV.int.mp r2, q _ (RV.int.mpr rfl)⟩
  · cases e
open PySem.Spec PyProof.Rows in
theorem tuple_mulSame (l : Addr) (items : Array Value) (n : Nat) (dd : Option Addr) (sl : Array (Option Value)) (x : Int) (u : Tok) (c0 : (decide (x < -(2 ^ 63)) || decide (x ≥ 2 ^ 63)) = false) (c1 : (items.isEmpty || x == 1) = true) :
    Meets (Builtin.«tuple.__mul__» ⟨[.ref l, .int x u], []⟩) (fun _ R s => s.heap.get? l = some { cls := .type "tuple", dict := dd, data := .seq items n, slots := sl } ∧ R (.ok (.ret (Value.ref l))) s) :=
  .of_wp fun prog w A R s h => by
    obtain ⟨hp, g, d, tk, os⟩ := s
    obtain ⟨hl, h⟩ := h
    have f1 := AutoSeq1.idx_int
    wp_walk using wpAny_loadPart' hl
    repeat (first
      | (refine wpAny_ite_false (decide_eq_false (by rw [c0]; exact Bool.false_ne_true)) ?_; wp_walk using wpAny_loadPart' hl)
      | (refine wpAny_ite_true (decide_eq_true c1) ?_; wp_walk using wpAny_loadPart' hl))
    exact ⟨_, rfl, h⟩
def rRepTS (K : PySem.W.Frag) : R2 := fun x y H Q => ∃ l k xs, x = .ref l ∧ y = .int k ∧ SqT K H l xs ∧ (k = 1 ∨ xs = []) ∧ -(2 ^ 63) ≤ k ∧ k < 2 ^ 63 ∧ Q (.ref l) H
open PySem.Spec PyProof.Rows in
theorem op_repTS {X : Cx} : OpR X (binaryOp .Mult) (rRepTS X.K) := by
  intro pins s σ H x y v u Q I rx ry h
  obtain ⟨l, k, xs, rfl, rfl, hT, hs, h1, h2, q⟩ := h
  cases rx
  obtain ⟨t, rfl⟩ := ry
  obtain ⟨its, r, ⟨⟨cls, dd, data, sl⟩, ho, hc, n, hd⟩, _⟩ := I.tuple hT
  simp only at hc hd
  subst hc hd
  have hle : its.length = xs.length := r.length.symm
  have c0 : (decide (k < -(2 ^ 63)) || decide (k ≥ 2 ^ 63)) = false := by
    rw [decide_eq_false (by omega), decide_eq_false (by omega)] <;> rfl
  have c1 : (its.toArray.isEmpty || k == 1) = true := by
    rw [Bool.or_eq_true]
    rcases hs with rfl | rfl
    · exact .inr rfl
    · have : its = [] := List.length_eq_zero_iff.mp hle
      subst this
      exact .inl rfl
  exact wpAny_binaryOp_repeat_ref (T := "tuple") (U := "int") (by decide) ⟨_, ho, rfl⟩ (fun s' => typeIs_int s' k t) noFill_tuple_mul F.fills_int_mul F.slot_int_rmul repeat_tuple F.slot_int_index.lookup
    (call_meets F.slot_int_rmul (typeIs_int s k t) F.entry_int_rmul (F.args_int_rmul_2 _ _) (int_rmul_tuple k t l its.toArray n dd sl)
      ⟨ho, rfl, ⟨_, ho, rfl⟩, call_meets F.slot_tuple_mul ⟨_, ho, rfl⟩ F.entry_tuple_mul (F.args_tuple_mul_2 _ _) (tuple_mulSame l its.toArray n dd sl k t c0 c1) ⟨ho, ⟨.ref l, H, I, rfl, q⟩⟩⟩)
def rRepS : R2 := fun x y H Q => ∃ a k, x = .str a ∧ y = .int k ∧ -(2 ^ 63) ≤ k ∧ k < 2 ^ 63 ∧ a.length * k.toNat ≤ sizeLine ∧ Q (.str (repS a k)) H
theorem rep_foldl (l : Array Nat) : ∀ (n : Nat) (acc : Array Nat), (List.replicate n l).foldl (· ++ ·) acc = (acc.toList ++ (List.replicate n l.toList).flatten).toArray
  | 0, acc => by simp
  | n + 1, acc => by
    rw [List.replicate_succ, List.foldl_cons, rep_foldl l n, List.replicate_succ, List.flatten_cons]
    simp
theorem op_repS {X : Cx} : OpR X (binaryOp .Mult) rRepS := by
  intro pins s σ H x y v u Q I rx ry h
  obtain ⟨a, k, rfl, rfl, h1, h2, hz, q⟩ := h
  obtain ⟨t, rfl⟩ := rx
  obtain ⟨t', rfl⟩ := ry
  have sz : sizeLine = 16777216 := rfl
  refine PySem.P.mul_str ?_ ?_ ?_ ?_
  · rw [decide_eq_false (by omega), decide_eq_false (by omega)]; rfl
  · intro h3 h4 h5
    have hk : 1 < k := by
      have : (k == 1) = false := by cases e : (k == 1) <;> simp [e] at h4 ⊢
      have := beq_eq_false_iff_ne.mp this
      omega
    have e1 : ((a.length : Int) * k) ≤ 16777216 := by
      rw [sz] at hz
      have : ((a.length * k.toNat : Nat) : Int) ≤ 16777216 := by omega
      rw [Int.natCast_mul, Int.toNat_of_nonneg (by omega)] at this
      exact this
    have e2 : (a.length : Int) ≤ (2 ^ 63 - 1) / k := by
      refine (Int.le_ediv_iff_mul_le (by omega)).mpr ?_
      omega
    omega
  · intro h3 h4
    unfold Builtin.Str.tooLong
    exact decide_eq_false (by omega)
  · split
    · rename_i h3
      refine ⟨by decide, .str (repS a k), H, I.tok _, ⟨s.toks, ?_⟩, q⟩
      have : k.toNat = 0 := by omega
      unfold repS
      rw [this]; rfl
    · split
      · rename_i h3 h4
        refine ⟨.str (repS a k), H, I, ⟨t, ?_⟩, q⟩
        have : repS a k = a := by
          unfold repS
          rw [Bool.or_eq_true] at h4
          rcases h4 with h4 | h4
          · have : k = 1 := by simpa using h4
            subst this
            show (⟨([a.cps.toList].flatten).toArray⟩ : Str) = a
            simp
          · have e0 : a.cps.toList = [] := by
              have : a.length = 0 := by simpa using h4
              exact List.length_eq_zero_iff.mp (by rw [Array.length_toList]; exact this)
            rw [e0]
            have : ∀ n : Nat, (List.replicate n ([] : List Nat)).flatten = [] := fun n => by simp
            rw [this]
            cases a with
            | mk cps =>
              simp only at e0
              rw [← e0]
        rw [this]
      · rename_i h3 h4
        have e1 : (⟨(List.replicate k.toNat a.cps).foldl (· ++ ·) #[]⟩ : Str) = repS a k := by
          unfold repS
          rw [rep_foldl]
          rfl
        rw [e1]
        refine ⟨?_, .str (repS a k), H, I.tok _, ⟨s.toks, rfl⟩, q⟩
        show (List.replicate k.toNat a.cps.toList).flatten.toArray.size ≤ sizeLine
        rw [List.size_toArray, PyProof.Rows.lm_len_rep_flat, Nat.mul_comm]
        exact hz
def rMulM (K : PySem.W.Frag) : R2 := fun x y H Q => (rI CMul fun i j => .int (i * j)) x y H Q ∨ (rI CMulW fun i j => .int (i * j)) x y H Q ∨ rRep x y H Q ∨ rRepS x y H Q ∨ rRepTS K x y H Q ∨ rRepT K x y H Q
theorem op_mulM {X : Cx} : OpR X (binaryOp .Mult) (rMulM X.K) := OpR.or op_mul (OpR.or op_mulW (OpR.or op_rep (OpR.or op_repS (OpR.or op_repTS op_repT))))
theorem RVs.rep {H : Hp} {xs : List MV} {vs : List V} (h : RVs K H xs vs) : ∀ n : Nat, RVs K H (List.replicate n xs).flatten (List.replicate n vs).flatten
  | 0 => by simp [RVs]
  | n + 1 => by
    rw [List.replicate_succ, List.replicate_succ, List.flatten_cons, List.flatten_cons]
    exact h.append (RVs.rep h n)
theorem os_mul : OpS K fMul (rMulM K) := by
  intro x y z v w Hk H Q e ex r1 r2 q qn
  unfold fMul at e
  split at e
  · rename_i i j
    split at e
    · rename_i h
      cases e
      unfold mulOk at h
      rw [Bool.or_eq_true] at h
      rcases h with h | h
      · refine .inl ⟨i, j, RV.int.mp r1, RV.int.mp r2, ?_, q _ (RV.int.mpr rfl)⟩
        simp only [Bool.or_eq_true, Bool.and_eq_true, decide_eq_true_eq] at h
        exact h
      · exact .inr (.inl ⟨i, j, RV.int.mp r1, RV.int.mp r2, of_decide_eq_true h, q _ (RV.int.mpr rfl)⟩)
    · cases e
  · rename_i a k
    split at e
    · rename_i h
      cases e
      simp only [Bool.and_eq_true, Bool.or_eq_true, decide_eq_true_eq] at h
      obtain ⟨p1, vs, rfl, h1, s1⟩ := RV.tup.mp r1
      have hvl := s1.length
      by_cases hk : k = 1 ∨ vs = []
      · refine .inr (.inr (.inr (.inr (.inl ⟨p1, k, vs, rfl, RV.int.mp r2, ex_t ex h1, hk, h.1.1, h.1.2, q _ ?_⟩))))
        have er : (List.replicate k.toNat a).flatten = a := by
          rcases hk with rfl | rfl
          · simp
          · have : a = [] := List.length_eq_zero_iff.mp (by simpa using hvl.symm)
            subst this; simp
        rw [er]
        exact RV.tup.mpr ⟨p1, vs, rfl, h1, s1⟩
      · have hk2 : 2 ≤ k ∧ k ≤ 1000 ∧ a.length ≤ 1000 := by
          rcases h.2 with (h2 | h2) | h2
          · exact absurd (.inl h2) hk
          · exact absurd (.inr (List.length_eq_zero_iff.mp (by rw [hvl]; simpa using h2))) hk
          · exact ⟨h2.1.1, h2.1.2, h2.2⟩
        refine .inr (.inr (.inr (.inr (.inr ⟨p1, k, vs, rfl, RV.int.mp r2, ex_t ex h1, fun e0 => hk (.inr e0), hk2.1, hk2.2.1, by rw [hvl]; exact hk2.2.2, fun p hp => qn p _ hp ?_⟩))))
        have z := Ex.new (o := .tup (List.replicate k.toNat vs).flatten) (ex.back hp)
        exact RV.tup.mpr ⟨p, _, rfl, SqT.of upd_same, (RVs.rep s1 _).mono z⟩
    · cases e
  · rename_i a k
    split at e
    · rename_i h
      cases e
      simp only [Bool.and_eq_true, decide_eq_true_eq] at h
      exact .inr (.inr (.inr (.inl ⟨a, k, RV.str.mp r1, RV.int.mp r2, h.1.1, h.1.2, szOk_iff.mp h.2, q _ (RV.str.mpr rfl)⟩)))
    · cases e
  · rename_i a k
    split at e
    · rename_i h
      cases e
      simp only [Bool.and_eq_true, decide_eq_true_eq] at h
      obtain ⟨p1, vs, rfl, h1, s1⟩ := RV.lst.mp r1
      refine .inr (.inr (.inl ⟨p1, k, vs, rfl, RV.int.mp r2, ex _ _ h1, h.1.1, h.1.2, ?_, fun p hp => qn p _ hp ?_⟩))
      · rw [s1.length]; exact szOk_iff.mp h.2
      · have z := Ex.new (o := .lst (List.replicate k.toNat vs).flatten) (ex.back hp)
        exact RV.lst.mpr ⟨p, _, rfl, upd_same, (RVs.rep s1 _).mono z⟩
    · cases e
  · cases e
def rDivM : R2 := fun x y H Q => (rI CDivN fun i j => .int (i.fdiv j)) x y H Q ∨ (rI CDivW fun i j => .int (i / j)) x y H Q
theorem op_divM {X : Cx} : OpR X (binaryOp .FloorDiv) rDivM := OpR.or op_fdivN op_fdivW
theorem os_div : OpS K fDiv rDivM := by
  intro x y z v w Hk H Q e ex r1 r2 q qn
  unfold fDiv at e
  split at e
  · rename_i i j
    split at e
    · rename_i h
      cases e
      unfold divOk at h
      rw [Bool.or_eq_true] at h
      rcases h with h | h
      · simp only [Bool.and_eq_true, decide_eq_true_eq] at h
        exact .inl ⟨i, j, RV.int.mp r1, RV.int.mp r2, h, q _ (RV.int.mpr rfl)⟩
      · simp only [Bool.and_eq_true, decide_eq_true_eq] at h
        refine .inr ⟨i, j, RV.int.mp r1, RV.int.mp r2, h, ?_⟩
        have := q _ (RV.int.mpr rfl)
        rw [Int.fdiv_eq_ediv_of_nonneg i (by omega)] at this
        exact this
    · cases e
  · cases e
theorem os_mod : OpS K fMod (rI (fun _ j => j ≠ 0) fun i j => .int (i.fmod j)) := by
  intro x y z v w Hk H Q e ex r1 r2 q qn
  unfold fMod at e
  split at e
  · split at e
    · rename_i h
      cases e
      exact ⟨_, _, RV.int.mp r1, RV.int.mp r2, of_decide_eq_true h, q _ (RV.int.mpr rfl)⟩
    · cases e
  · cases e
theorem os_pow : OpS K fPow (rI CPow fun i j => .int (i ^ j.toNat)) := by
  intro x y z v w Hk H Q e ex r1 r2 q qn
  unfold fPow at e
  split at e
  · split at e
    · rename_i h
      cases e
      simp only [Bool.and_eq_true, decide_eq_true_eq] at h
      exact ⟨_, _, RV.int.mp r1, RV.int.mp r2, ⟨h.1.1, h.1.2, h.2⟩, q _ (RV.int.mpr rfl)⟩
    · cases e
  · cases e
theorem os_and : OpS K fAnd (rI0 fun i j => .int (Builtin.bitAnd i j)) := by
  intro x y z v w Hk H Q e ex r1 r2 q qn
  unfold fAnd at e
  split at e
  · cases e; exact ⟨_, _, RV.int.mp r1, RV.int.mp r2, q _ (RV.int.mpr rfl)⟩
  · cases e
theorem os_or : OpS K fOr (rI0 fun i j => .int (Builtin.bitOr i j)) := by
  intro x y z v w Hk H Q e ex r1 r2 q qn
  unfold fOr at e
  split at e
  · cases e; exact ⟨_, _, RV.int.mp r1, RV.int.mp r2, q _ (RV.int.mpr rfl)⟩
  · cases e
theorem os_lt : OpS K fLt (rI0 fun i j => .bl (decide (i < j))) := by
  intro x y z v w Hk H Q e ex r1 r2 q qn
  unfold fLt at e
  split at e
  · cases e; exact ⟨_, _, RV.int.mp r1, RV.int.mp r2, q _ (RV.bl.mpr rfl)⟩
  · cases e
theorem os_le : OpS K fLe (rI0 fun i j => .bl (decide (i ≤ j))) := by
  intro x y z v w Hk H Q e ex r1 r2 q qn
  unfold fLe at e
  split at e
  · cases e; exact ⟨_, _, RV.int.mp r1, RV.int.mp r2, q _ (RV.bl.mpr rfl)⟩
  · cases e
theorem os_gt : OpS K fGt (rI0 fun i j => .bl (decide (j < i))) := by
  intro x y z v w Hk H Q e ex r1 r2 q qn
  unfold fGt at e
  split at e
  · cases e; exact ⟨_, _, RV.int.mp r1, RV.int.mp r2, q _ (RV.bl.mpr rfl)⟩
  · cases e
theorem os_ge : OpS K fGe (rI0 fun i j => .bl (decide (j ≤ i))) := by
  intro x y z v w Hk H Q e ex r1 r2 q qn
  unfold fGe at e
  split at e
  · cases e; exact ⟨_, _, RV.int.mp r1, RV.int.mp r2, q _ (RV.bl.mpr rfl)⟩
  · cases e
theorem RV.isnon {H : Hp} {x : MV} {v : V} (h : RV K H x v) : decide (v = .non) = x.isN := by
  cases x with
  | raw w => rw [RV.raw.mp h]; rfl
  | own _ => unfold RV at h; exact h.elim
  | obj _ _ => unfold RV at h; exact h.elim
  | non => rw [RV.non.mp h]; rfl
  | int i => rw [RV.int.mp h]; rfl
  | bl i => rw [RV.bl.mp h]; rfl
  | str i => rw [RV.str.mp h]; rfl
  | tup xs => obtain ⟨a, vs, e, _⟩ := RV.tup.mp h; rw [e]; rfl
  | lst xs => obtain ⟨a, vs, e, _⟩ := RV.lst.mp h; rw [e]; rfl
  | scr xs => obtain ⟨a, e, _⟩ := RV.scr.mp h; rw [e]; rfl
  | fnc x => obtain ⟨a, e, _⟩ := RV.fnc.mp h; rw [e]; rfl
  | dct ks xs => obtain ⟨a, vs, e, _⟩ := RV.dct.mp h; rw [e]; rfl
  | dow _ _ => unfold RV at h; exact h.elim
  | dot _ _ => unfold RV at h; exact h.elim
  | ols _ => unfold RV at h; exact h.elim
  | exn C fs => obtain ⟨a, _, _, e, _⟩ := RV.exn.mp h; rw [e]; rfl
theorem os_isN : OpS K fIsN (fun x y H Q => y = .non ∧ Q (.bl (decide (x = .non))) H) := by
  intro x y z v w Hk H Q e ex r1 r2 q qn
  unfold fIsN at e
  split at e
  · cases e; refine ⟨RV.non.mp r2, ?_⟩
    rw [r1.isnon]; exact q _ (RV.bl.mpr rfl)
  · cases e
theorem scal_of {H : Hp} {x y : MV} {v w : V} (h : scalM x y = true) (r1 : RV K H x v) (r2 : RV K H y w) : scal v w = true ∧ decide (v = w) = sameM x y := by
  unfold scalM at h
  split at h <;> first | (cases h; done) | skip
  all_goals
    first
      | (rw [RV.non.mp r1] ) | (rw [RV.int.mp r1]) | (rw [RV.bl.mp r1]) | (rw [RV.str.mp r1])
    first
      | (rw [RV.non.mp r2] ) | (rw [RV.int.mp r2]) | (rw [RV.bl.mp r2]) | (rw [RV.str.mp r2])
    refine ⟨rfl, ?_⟩
    simp [sameM]
mutual
theorem Dp.of {Hk H : Hp} (ex : Ex Hk H) : ∀ (x : MV) (v : V) (d : PyData), RV K Hk x v → toD x = some d → Dp K H v d
  | .non, v, d, r, e => by rw [RV.non.mp r]; unfold toD at e; cases e; exact .non
  | .bl b, v, d, r, e => by rw [RV.bl.mp r]; unfold toD at e; cases e; exact .bl b
  | .int b, v, d, r, e => by rw [RV.int.mp r]; unfold toD at e; cases e; exact .int b
  | .str b, v, d, r, e => by rw [RV.str.mp r]; unfold toD at e; cases e; exact .str b
  | .tup xs, v, d, r, e => by
    obtain ⟨a, vs, rfl, h, s⟩ := RV.tup.mp r
    unfold toD at e
    cases e2 : toDs xs with
    | none => rw [e2] at e; cases e
    | some ds =>
      rw [e2] at e; cases e
      exact .tup (ex_t ex h) (DpAll.of ex xs vs ds s e2)
  | .lst xs, v, d, r, e => by
    obtain ⟨a, vs, rfl, h, s⟩ := RV.lst.mp r
    unfold toD at e
    cases e2 : toDs xs with
    | none => rw [e2] at e; cases e
    | some ds =>
      rw [e2] at e; cases e
      exact .lst (SqL.of (ex _ _ h)) (DpAll.of ex xs vs ds s e2)
  | .own _, v, d, r, e => by unfold toD at e; cases e
  | .raw _, v, d, r, e => by unfold toD at e; cases e
  | .scr _, v, d, r, e => by unfold toD at e; cases e
  | .fnc _, v, d, r, e => by unfold toD at e; cases e
  | .obj _ _, v, d, r, e => by unfold toD at e; cases e
  | .dct _ _, v, d, r, e => by unfold toD at e; cases e
  | .dow _ _, v, d, r, e => by unfold toD at e; cases e
  | .dot _ _, v, d, r, e => by unfold toD at e; cases e
theorem DpAll.of {Hk H : Hp} (ex : Ex Hk H) : ∀ (xs : List MV) (vs : List V) (ds : List PyData), RVs K Hk xs vs → toDs xs = some ds → DpAll K H vs ds
  | [], vs, ds, r, e => by rw [RVs.nil.mp r]; unfold toDs at e; cases e; exact .nil
  | x :: xs, vs, ds, r, e => by
    obtain ⟨v, us, rfl, r1, r2⟩ := RVs.cons.mp r
    unfold toDs at e
    split at e
    · rename_i d ds' e1 e2
      cases e
      exact .cons (Dp.of ex x v d r1 e1) (DpAll.of ex xs us ds' r2 e2)
    · cases e
end
def rEqM (K : PySem.W.Frag) : R2 := fun x y H Q => rEq x y H Q ∨ rEqD K x y H Q
def rNeM (K : PySem.W.Frag) : R2 := fun x y H Q => rNe x y H Q ∨ rNeD K x y H Q
theorem op_eqM {X : Cx} (hu : X.A.units + 64 < cLine) : OpR X (compareOp .Eq) (rEqM X.K) := OpR.or op_eq (op_eqD hu)
theorem op_neM {X : Cx} (hu : X.A.units + 64 < cLine) : OpR X (compareOp .NotEq) (rNeM X.K) := OpR.or op_ne (op_neD hu)
theorem os_eq : OpS K fEq (rEqM K) := by
  intro x y z v w Hk H Q e ex r1 r2 q qn
  unfold fEq eqM at e
  split at e
  · rename_i h
    obtain ⟨s1, s2⟩ := scal_of h r1 r2
    cases e
    refine .inl ⟨s1, ?_⟩
    rw [s2]; exact q _ (RV.bl.mpr rfl)
  · split at e
    · rename_i d e' e1 e2
      split at e
      · rename_i h
        rw [Bool.and_eq_true] at h
        cases e
        exact .inr ⟨d, e', Dp.of ex _ _ _ r1 e1, Dp.of ex _ _ _ r2 e2, h.1, h.2, q _ (RV.bl.mpr rfl)⟩
      · cases e
    · cases e
theorem os_ne : OpS K fNe (rNeM K) := by
  intro x y z v w Hk H Q e ex r1 r2 q qn
  unfold fNe eqM at e
  split at e
  · rename_i h
    obtain ⟨s1, s2⟩ := scal_of h r1 r2
    cases e
    refine .inl ⟨s1, ?_⟩
    rw [s2]; exact q _ (RV.bl.mpr rfl)
  · split at e
    · rename_i d e' e1 e2
      split at e
      · rename_i h
        rw [Bool.and_eq_true] at h
        cases e
        exact .inr ⟨d, e', Dp.of ex _ _ _ r1 e1, Dp.of ex _ _ _ r2 e2, h.1, h.2, q _ (RV.bl.mpr rfl)⟩
      · cases e
    · cases e
def fIx : MV → MV → Option MV
  | .lst xs, .int i => atI xs i
  | .tup xs, .int i => atI xs i
  | .scr ns, .int i => (atI ns i).map .int
  | .str z, .int i => if szOk z.length then (atI z.cps.toList i).map fun c => .str ⟨#[c]⟩ else none
  | _, _ => none
theorem atI_rv {H : Hp} {xs : List MV} {vs : List V} (r : RVs K H xs vs) {i : Int} {x : MV} (e : atI xs i = some x) : ∃ v, atI vs i = some v ∧ RV K H x v := by
  unfold atI at e ⊢
  rw [r.length]
  cases h : ixN xs.length i with
  | none => rw [h] at e; cases e
  | some j =>
    rw [h] at e
    exact r.get e
theorem atI_map {α β : Type} {f : α → β} {xs : List α} {i : Int} {x : α} (e : atI xs i = some x) : atI (xs.map f) i = some (f x) := by
  unfold atI at e ⊢
  rw [List.length_map]
  cases h : ixN xs.length i with
  | none => rw [h] at e; cases e
  | some j =>
    rw [h] at e
    show (xs.map f)[j]? = _
    rw [List.getElem?_map, show xs[j]? = some x from e]; rfl
theorem os_ix : OpS K fIx (rIx K) := by
  intro x y z v w Hk H Q e ex r1 r2 q qn
  unfold fIx at e
  split at e
  · obtain ⟨p1, vs, rfl, h1, s1⟩ := RV.lst.mp r1
    obtain ⟨u, eu, ru⟩ := atI_rv s1 e
    exact .inl ⟨p1, vs, _, u, rfl, RV.int.mp r2, SqL.of (ex _ _ h1), eu, q _ ru⟩
  · obtain ⟨p1, vs, rfl, h1, s1⟩ := RV.tup.mp r1
    obtain ⟨u, eu, ru⟩ := atI_rv s1 e
    exact .inr (.inl ⟨p1, vs, _, u, rfl, RV.int.mp r2, ex_t ex h1, eu, q _ ru⟩)
  · rename_i ns i
    obtain ⟨p1, rfl, h1⟩ := RV.scr.mp r1
    cases h : atI ns i with
    | none => rw [h] at e; cases e
    | some n =>
      rw [h] at e; cases e
      exact .inl ⟨p1, _, _, _, rfl, RV.int.mp r2, ex_l ex h1, atI_map h, q _ (RV.int.mpr rfl)⟩
  · rename_i s i
    split at e
    · rename_i hz
      cases h : atI s.cps.toList i with
      | none => rw [h] at e; cases e
      | some n =>
        rw [h] at e; cases e
        exact .inr (.inr ⟨s, i, n, RV.str.mp r1, RV.int.mp r2, szOk_iff.mp hz, h, q _ (RV.str.mpr rfl)⟩)
    · cases e
  · cases e
def flatM : MV → Bool
  | .non | .bl _ | .int _ | .str _ => true
  | _ => false
def eqFlat : MV → MV → Bool
  | .non, .non => true
  | .bl a, .bl b => a == b
  | .bl a, .int b => (if a then 1 else 0) == b
  | .int a, .bl b => a == (if b then 1 else 0)
  | .int a, .int b => a == b
  | .str a, .str b => a == b
  | _, _ => false
theorem flat_v {H : Hp} {x : MV} {v : V} (h : flatM x = true) (r : RV K H x v) : flatV v = true := by
  unfold flatM at h
  split at h <;> first | (cases h; done) | skip
  · rw [RV.non.mp r]; rfl
  · rw [RV.bl.mp r]; rfl
  · rw [RV.int.mp r]; rfl
  · rw [RV.str.mp r]; rfl
theorem flat_eq {H : Hp} {x y : MV} {v w : V} (h : flatM x = true) (h2 : flatM y = true) (r : RV K H x v) (r2 : RV K H y w) : eqV v w = eqFlat x y := by
  unfold flatM at h h2
  split at h <;> first | (cases h; done) | skip
  all_goals (split at h2 <;> first | (cases h2; done) | skip)
  all_goals
    first
      | (rw [RV.non.mp r] ) | (rw [RV.int.mp r]) | (rw [RV.bl.mp r]) | (rw [RV.str.mp r])
    first
      | (rw [RV.non.mp r2] ) | (rw [RV.int.mp r2]) | (rw [RV.bl.mp r2]) | (rw [RV.str.mp r2])
    rfl
theorem flats_v {H : Hp} : ∀ {xs : List MV} {vs : List V}, xs.all flatM = true → RVs K H xs vs → vs.all flatV = true
  | [], vs, _, r => by rw [RVs.nil.mp r]; rfl
  | x :: xs, vs, h, r => by
    obtain ⟨v, us, rfl, r1, r2⟩ := RVs.cons.mp r
    rw [List.all_cons, Bool.and_eq_true] at h
    rw [List.all_cons, flat_v h.1 r1, flats_v h.2 r2]; rfl
theorem inV_eq {H : Hp} {y : MV} {w : V} (hy : flatM y = true) (ry : RV K H y w) : ∀ {xs : List MV} {vs : List V}, xs.all flatM = true → RVs K H xs vs → inV w vs = xs.any fun x => eqFlat x y
  | [], vs, _, r => by rw [RVs.nil.mp r]; rfl
  | x :: xs, vs, h, r => by
    obtain ⟨v, us, rfl, r1, r2⟩ := RVs.cons.mp r
    rw [List.all_cons, Bool.and_eq_true] at h
    have ih := inV_eq hy ry h.2 r2
    unfold inV at ih ⊢
    rw [List.any_cons, List.any_cons, ih, flat_eq h.1 hy r1 ry]
def inM (y : MV) (xs : List MV) : Option Bool := if flatM y && xs.all flatM then some (xs.any fun x => eqFlat x y) else none
def inA : MV → MV → Option Bool
  | y, .lst xs => inM y xs
  | y, .tup xs => inM y xs
  | .str i, .str j => some (!(Builtin.Str.occurrences j i 0 j.length 1).isEmpty)
  | _, _ => none
def fIn (x y : MV) : Option MV := (inA x y).map .bl
def fNotIn (x y : MV) : Option MV := (inA x y).map fun b => .bl (!b)
def rInM (K : PySem.W.Frag) : R2 := fun x y H Q => rIn K false x y H Q ∨ (∃ i j, x = .str i ∧ y = .str j ∧ Q (.bl (!(Builtin.Str.occurrences j i 0 j.length 1).isEmpty)) H)
def rNotInM (K : PySem.W.Frag) : R2 := fun x y H Q => rIn K true x y H Q ∨ (∃ i j, x = .str i ∧ y = .str j ∧ Q (.bl (!(!(Builtin.Str.occurrences j i 0 j.length 1).isEmpty))) H)
theorem op_inM {X : Cx} : OpR X (compareOp .In) (rInM X.K) := OpR.or op_in_seq op_in_str
theorem op_notInM {X : Cx} : OpR X (compareOp .NotIn) (rNotInM X.K) := OpR.or op_notIn_seq op_notin_str
theorem in_sq {Hk H : Hp} {x y : MV} {v w : V} {b : Bool} (ex : Ex Hk H) (r1 : RV K Hk x v) (r2 : RV K Hk y w) (e : inA x y = some b) :
    (∃ p xs, w = .ref p ∧ (SqL K H p xs ∨ SqT K H p xs) ∧ flatV v = true ∧ xs.all flatV = true ∧ inV v xs = b) ∨ (∃ i j, v = .str i ∧ w = .str j ∧ (!(Builtin.Str.occurrences j i 0 j.length 1).isEmpty) = b) := by
  unfold inA at e
  split at e
  · unfold inM at e
    split at e
    · rename_i h
      cases e
      rw [Bool.and_eq_true] at h
      obtain ⟨p1, vs, rfl, h1, s1⟩ := RV.lst.mp r2
      exact .inl ⟨p1, vs, rfl, .inl (SqL.of (ex _ _ h1)), flat_v h.1 r1, flats_v h.2 s1, inV_eq h.1 r1 h.2 s1⟩
    · cases e
  · unfold inM at e
    split at e
    · rename_i h
      cases e
      rw [Bool.and_eq_true] at h
      obtain ⟨p1, vs, rfl, h1, s1⟩ := RV.tup.mp r2
      exact .inl ⟨p1, vs, rfl, .inr (ex_t ex h1), flat_v h.1 r1, flats_v h.2 s1, inV_eq h.1 r1 h.2 s1⟩
    · cases e
  · cases e
    exact .inr ⟨_, _, RV.str.mp r1, RV.str.mp r2, rfl⟩
  · cases e
theorem os_in : OpS K fIn (rInM K) := by
  intro x y z v w Hk H Q e ex r1 r2 q qn
  unfold fIn at e
  cases eb : inA x y with
  | none => rw [eb] at e; cases e
  | some b =>
    rw [eb] at e; cases e
    rcases in_sq ex r1 r2 eb with ⟨p, xs, e1, e2, e3, e4, e5⟩ | ⟨i, j, e1, e2, e3⟩
    · exact .inl ⟨p, xs, e1, e2, e3, e4, by rw [if_neg (by decide), e5]; exact q _ (RV.bl.mpr rfl)⟩
    · exact .inr ⟨i, j, e1, e2, by rw [e3]; exact q _ (RV.bl.mpr rfl)⟩
theorem os_notIn : OpS K fNotIn (rNotInM K) := by
  intro x y z v w Hk H Q e ex r1 r2 q qn
  unfold fNotIn at e
  cases eb : inA x y with
  | none => rw [eb] at e; cases e
  | some b =>
    rw [eb] at e; cases e
    rcases in_sq ex r1 r2 eb with ⟨p, xs, e1, e2, e3, e4, e5⟩ | ⟨i, j, e1, e2, e3⟩
    · exact .inl ⟨p, xs, e1, e2, e3, e4, by rw [if_pos rfl, e5]; exact q _ (RV.bl.mpr rfl)⟩
    · exact .inr ⟨i, j, e1, e2, by rw [e3]; exact q _ (RV.bl.mpr rfl)⟩
end
end Tm
set_option Elab.async false
set_option linter.all false
set_option maxRecDepth 100000
set_option maxHeartbeats 2000000
namespace Tm
open PySem L2
open Evl (Ex ex_rd ex_l ex_t)
structure Post (c : Ct) (F : Hp) (bp : List (Nat × Addr)) (σ : St) {β : Type} (P : Hp → Res (β × Env) → Prop) : Prop where
  ex : ∀ Hk e ρ, P Hk (.exc e ρ) → Wish c F Hk bp σ e ρ
  st : ∀ Hk, ¬ P Hk .stuck
  mono : ∀ Hk Hk' r, Ex Hk Hk' → P Hk r → P Hk' r
section
variable {c : Ct} {F Hk H : Hp} {bp : List (Nat × Addr)} {σ : St} {ρ : Env} {β : Type}
theorem postE {Q : VK} : Post c F bp σ fun Hk r => okE c F Hk bp σ Q r := ⟨fun _ _ _ h => h, fun _ h => h, fun _ _ _ x h => okE.mono x h⟩
theorem postO {Q : VK} : Post c F bp σ fun Hk r => okO c F Hk bp σ Q r := ⟨fun _ _ _ h => h, fun _ h => h, fun _ _ _ x h => okO.mono x h⟩
theorem postT {Q : Bool → Hp → Prop} : Post c F bp σ fun Hk r => okT c F Hk bp σ Q r := ⟨fun _ _ _ h => h, fun _ h => h, fun _ _ _ x h => okT.mono x h⟩
theorem postA {Q : List V → Hp → Prop} : Post c F bp σ fun Hk r => okA c F Hk bp σ Q r := ⟨fun _ _ _ h => h, fun _ h => h, fun _ _ _ x h => okA.mono x h⟩
theorem postS {D : Ends} : Post c F bp σ fun Hk r => okS c F Hk bp D r := ⟨fun _ _ _ h Hk' H' cls d => h Hk' H' σ cls d, fun _ h => h, fun _ _ _ x h => okS.mono x h⟩
variable {P : Hp → Res (β × Env) → Prop}
theorem bE (p : Post c F bp σ P) {a : ME} {k : MV → Env → Res (β × Env)} (S : At c F Hk H bp σ ρ) (h : P Hk ((a ρ).bind k)) :
    rdE c a σ H fun v H1 => ∃ Hk1 x ρ1, Ex Hk Hk1 ∧ At c F Hk1 H1 bp σ ρ1 ∧ RV c.K Hk1 x v ∧ P Hk1 (k x ρ1) := by
  refine ⟨F, Hk, bp, ρ, S, ?_⟩
  cases e : a ρ with
  | stuck => rw [e] at h; exact p.st _ h
  | exc x ρ' => rw [e] at h; exact p.ex _ _ _ h
  | ok q =>
    rw [e] at h
    exact fun Hk1 H1 v x1 S1 r1 => ⟨Hk1, q.1, q.2, x1, ⟨S1, S.2⟩, r1, p.mono _ _ _ x1 h⟩
theorem bO (p : Post c F bp σ P) {a : ME} {k : MV → Env → Res (β × Env)} (S : At c F Hk H bp σ ρ) (h : P Hk ((a ρ).bind k)) :
    rdO c a σ H fun v H1 => ∃ Hk1 x ρ1, Ex Hk Hk1 ∧ RS c.K F Hk1 H1 bp (σ ++ [some v]) (ρ1 ++ [some x]) ∧ P Hk1 (k x ρ1) := by
  refine ⟨F, Hk, bp, ρ, S, ?_⟩
  cases e : a ρ with
  | stuck => rw [e] at h; exact p.st _ h
  | exc x ρ' => rw [e] at h; exact p.ex _ _ _ h
  | ok q =>
    rw [e] at h
    exact fun Hk1 H1 v x1 S1 => ⟨Hk1, q.1, q.2, x1, S1, p.mono _ _ _ x1 h⟩
theorem bT (p : Post c F bp σ P) {a : MT} {k : Bool → Env → Res (β × Env)} (S : At c F Hk H bp σ ρ) (h : P Hk ((a ρ).bind k)) :
    rdT c a σ H fun b H1 => ∃ Hk1 ρ1, Ex Hk Hk1 ∧ At c F Hk1 H1 bp σ ρ1 ∧ P Hk1 (k b ρ1) := by
  refine ⟨F, Hk, bp, ρ, S, ?_⟩
  cases e : a ρ with
  | stuck => rw [e] at h; exact p.st _ h
  | exc x ρ' => rw [e] at h; exact p.ex _ _ _ h
  | ok q =>
    rw [e] at h
    exact fun Hk1 H1 x1 S1 => ⟨Hk1, q.2, x1, ⟨S1, S.2⟩, p.mono _ _ _ x1 h⟩
theorem bA (p : Post c F bp σ P) {a : MA} {k : List MV → Env → Res (β × Env)} (S : At c F Hk H bp σ ρ) (h : P Hk ((a ρ).bind k)) :
    rdA c a σ H fun vs H1 => ∃ Hk1 xs ρ1, Ex Hk Hk1 ∧ At c F Hk1 H1 bp σ ρ1 ∧ RVs c.K Hk1 xs vs ∧ P Hk1 (k xs ρ1) := by
  refine ⟨F, Hk, bp, ρ, S, ?_⟩
  cases e : a ρ with
  | stuck => rw [e] at h; exact p.st _ h
  | exc x ρ' => rw [e] at h; exact p.ex _ _ _ h
  | ok q =>
    rw [e] at h
    exact fun Hk1 H1 vs x1 S1 r1 => ⟨Hk1, q.1, q.2, x1, ⟨S1, S.2⟩, r1, p.mono _ _ _ x1 h⟩
end
section
variable {c : Ct}
theorem okE.imp {F Hk : Hp} {bp : List (Nat × Addr)} {σ : St} {Q Q' : VK} {r : Res (MV × Env)} (h : okE c F Hk bp σ Q r) (w : ∀ v H, Q v H → Q' v H) : okE c F Hk bp σ Q' r := by
  cases r with
  | ok a => exact fun Hk2 H2 v x S r => w _ _ (h Hk2 H2 v x S r)
  | exc e ρ => exact h
  | stuck => exact h
theorem okT.imp {F Hk : Hp} {bp : List (Nat × Addr)} {σ : St} {Q Q' : Bool → Hp → Prop} {r : Res (Bool × Env)} (h : okT c F Hk bp σ Q r) (w : ∀ v H, Q v H → Q' v H) : okT c F Hk bp σ Q' r := by
  cases r with
  | ok a => exact fun Hk2 H2 x S => w _ _ (h Hk2 H2 x S)
  | exc e ρ => exact h
  | stuck => exact h
theorem okA.imp {F Hk : Hp} {bp : List (Nat × Addr)} {σ : St} {Q Q' : List V → Hp → Prop} {r : Res (List MV × Env)} (h : okA c F Hk bp σ Q r) (w : ∀ v H, Q v H → Q' v H) : okA c F Hk bp σ Q' r := by
  cases r with
  | ok a => exact fun Hk2 H2 v x S r => w _ _ (h Hk2 H2 v x S r)
  | exc e ρ => exact h
  | stuck => exact h
theorem okO.imp {F Hk : Hp} {bp : List (Nat × Addr)} {σ : St} {Q Q' : VK} {r : Res (MV × Env)} (h : okO c F Hk bp σ Q r) (w : ∀ v H, Q v H → Q' v H) : okO c F Hk bp σ Q' r := by
  cases r with
  | ok a => exact fun Hk2 H2 v x S => w _ _ (h Hk2 H2 v x S)
  | exc e ρ => exact h
  | stuck => exact h
theorem rdw {m : ME} {σ : St} {H : Hp} {Q Q' : VK} (h : rdE c m σ H Q) (w : ∀ v H, Q v H → Q' v H) : rdE c m σ H Q' := let ⟨F, Hk, bp, ρ, S, q⟩ := h; ⟨F, Hk, bp, ρ, S, q.imp w⟩
theorem rdOw {m : ME} {σ : St} {H : Hp} {Q Q' : VK} (h : rdO c m σ H Q) (w : ∀ v H, Q v H → Q' v H) : rdO c m σ H Q' := let ⟨F, Hk, bp, ρ, S, q⟩ := h; ⟨F, Hk, bp, ρ, S, q.imp w⟩
theorem rdTw {m : MT} {σ : St} {H : Hp} {Q Q' : Bool → Hp → Prop} (h : rdT c m σ H Q) (w : ∀ v H, Q v H → Q' v H) : rdT c m σ H Q' := let ⟨F, Hk, bp, ρ, S, q⟩ := h; ⟨F, Hk, bp, ρ, S, q.imp w⟩
theorem rdAw {m : MA} {σ : St} {H : Hp} {Q Q' : List V → Hp → Prop} (h : rdA c m σ H Q) (w : ∀ v H, Q v H → Q' v H) : rdA c m σ H Q' := let ⟨F, Hk, bp, ρ, S, q⟩ := h; ⟨F, Hk, bp, ρ, S, q.imp w⟩
end
section
variable {X : Cx} {c : Ct}
def mTest (a : ME) : MT := fun ρ => (a ρ).bind fun x ρ1 => match x with | .bl b => .ok (b, ρ1) | _ => .stuck
theorem rd_test {a : ME} {σ : St} {H : Hp} {Q : Bool → Hp → Prop} (h : rdT c (mTest a) σ H Q) : (rdE c a) σ H fun x H' => ∃ k, x = .bl k ∧ Q k H' := by
  obtain ⟨F, Hk, bp, ρ, S, h⟩ := h
  obtain ⟨F', Hk', bp', ρ', S', h'⟩ := bE postT S h
  refine ⟨F', Hk', bp', ρ', S', ?_⟩
  cases e : a ρ' with
  | stuck => rw [e] at h'; exact h'
  | exc x r => rw [e] at h'; exact h'
  | ok q =>
    rw [e] at h'
    intro Hk1 H1 v x1 S1 r1
    obtain ⟨Hk2, x, ρ2, x2, S2, r2, h2⟩ := h' Hk1 H1 v x1 S1 r1
    cases x with
    | bl b => exact ⟨b, RV.bl.mp r2, h2 _ _ (Ex.refl _) S2.1⟩
    | _ => exact h2.elim
theorem mt_cmp {op : CmpOp} {f : MV → MV → Option MV} {r : R2} {a b : Expr} {ma mb : ME} {pos : Pos} (ho : OpR X (compareOp op) r) (o : OpS c.K f r) (ha : PE X a (rdE c ma)) (hb : PE X b (rdE c mb)) (hm : behindInMarks op b = false) :
    PT X (.Compare a [op] [b] pos) (rdT c (mTest (mOp f ma mb))) := PTw (pt_cmpR ho ha hb hm) fun σ H Q h => rd_op (Q := fun x H' => ∃ k, x = .bl k ∧ Q k H') o (rd_test h)
theorem mt_val {e : Expr} {m : ME} (h : PE X e (rdE c m)) (he : ∀ whole, isTrue e X.env whole = (do let v ← whole; standAt e.pos; holding [v] (truthy v)) := by intro _; rfl) : PT X e (rdT c (mTest m)) :=
  PTw (pt_val h he) fun σ H Q h => rd_test h
def mChain (f g : MV → MV → Option MV) (a b d : ME) : ME := fun ρ => (a ρ).bind fun x ρ1 => (b ρ1).bind fun y ρ2 => match f x y with
  | some (.bl true) => (d ρ2).bind fun z ρ3 => match g y z with | some w => .ok (w, ρ3) | none => .stuck
  | some (.bl false) => .ok (.bl false, ρ2)
  | _ => .stuck
theorem opEnd {f : MV → MV → Option MV} {r : R2} (o : OpS c.K f r) {F Hk H : Hp} {bp : List (Nat × Addr)} {σ : St} {ρ : Env} {Q : VK} {x y : MV} {v w : V} (S : At c F Hk H bp σ ρ) (r1 : RV c.K Hk x v) (r2 : RV c.K Hk y w)
    (h : okE c F Hk bp σ Q (match f x y with | some z => .ok (z, ρ) | none => .stuck)) : r v w H Q := by
  cases e : f x y with
  | none => rw [e] at h; exact h.elim
  | some z =>
    rw [e] at h
    exact o x y z v w Hk H Q e S.1.ex r1 r2 (fun u ru => h _ _ u (Ex.refl _) S.1 ru) fun p ob hp ru => h _ _ _ (Ex.new (S.1.ex.back hp)) (S.1.new hp) ru
theorem rd_chain {f g : MV → MV → Option MV} {r r' : R2} (o : OpS c.K f r) (o' : OpS c.K g r') {a b d : ME} {σ : St} {H : Hp} {Q : VK} (h : rdE c (mChain f g a b d) σ H Q) : tChain r r' (rdE c a) (rdE c b) (rdE c d) σ H Q := by
  obtain ⟨F, Hk, bp, ρ, S, h⟩ := h
  refine rdw (bE postE S h) fun v H1 ⟨Hk1, x, ρ1, x1, S1, r1, h1⟩ => ?_
  refine rdw (bE postE S1 h1) fun w H2 ⟨Hk2, y, ρ2, x2, S2, r2, h2⟩ => ?_
  split at h2
  · rename_i e
    refine o x y _ v w Hk2 H2 _ e S2.1.ex (RV.mono x2 _ _ r1) r2 (fun u ru => ⟨true, RV.bl.mp ru, ?_⟩) fun p ob hp ru => nomatch (RV.bl.mp ru)
    rw [if_pos rfl]
    refine rdw (bE postE S2 h2) fun z H3 ⟨Hk3, zz, ρ3, x3, S3, r3, h3⟩ => ?_
    exact opEnd o' S3 (RV.mono x3 _ _ r2) r3 h3
  · rename_i e
    refine o x y _ v w Hk2 H2 _ e S2.1.ex (RV.mono x2 _ _ r1) r2 (fun u ru => ⟨false, RV.bl.mp ru, ?_⟩) fun p ob hp ru => nomatch (RV.bl.mp ru)
    rw [if_neg (by decide)]
    exact h2 _ _ _ (Ex.refl _) S2.1 (RV.bl.mpr rfl)
  · exact h2.elim
theorem me_chain {op op' : CmpOp} {f g : MV → MV → Option MV} {r r' : R2} {a b d : Expr} {ma mb md : ME} {pos : Pos} (ho : OpR X (compareOp op) r) (o : OpS c.K f r) (ho' : OpR X (compareOp op') r') (o' : OpS c.K g r')
    (ha : PE X a (rdE c ma)) (hb : PE X b (rdE c mb)) (hd : PE X d (rdE c md)) (hm : lastMarks [op, op'] [b, d] = false := by with_unfolding_all rfl) : PE X (.Compare a [op, op'] [b, d] pos) (rdE c (mChain f g ma mb md)) :=
  PEw (pe_chain ho ho' ha hb hd hm) fun _ _ _ h => rd_chain o o' h
def mAndT (a b : MT) : MT := fun ρ => (a ρ).bind fun x ρ1 => if x then b ρ1 else .ok (false, ρ1)
def mOrT (a b : MT) : MT := fun ρ => (a ρ).bind fun x ρ1 => if x then .ok (true, ρ1) else b ρ1
def mNotT (a : MT) : MT := fun ρ => (a ρ).bind fun x ρ1 => .ok (!x, ρ1)
def mBv (t : MT) : ME := fun ρ => (t ρ).bind fun x ρ1 => .ok (.bl x, ρ1)
theorem rd_andT {a b : MT} {σ : St} {H : Hp} {Q : Bool → Hp → Prop} (h : rdT c (mAndT a b) σ H Q) : tAnd (rdT c a) (rdT c b) σ H Q := by
  obtain ⟨F, Hk, bp, ρ, S, h⟩ := h
  refine rdTw (bT postT S h) fun k H1 ⟨Hk1, ρ1, x1, S1, h1⟩ => ?_
  cases k with
  | true => rw [if_pos rfl] at h1 ⊢; exact ⟨F, Hk1, bp, ρ1, S1, h1⟩
  | false => rw [if_neg (by decide)] at h1 ⊢; exact h1 _ _ (Ex.refl _) S1.1
theorem rd_orT {a b : MT} {σ : St} {H : Hp} {Q : Bool → Hp → Prop} (h : rdT c (mOrT a b) σ H Q) : tOr (rdT c a) (rdT c b) σ H Q := by
  obtain ⟨F, Hk, bp, ρ, S, h⟩ := h
  refine rdTw (bT postT S h) fun k H1 ⟨Hk1, ρ1, x1, S1, h1⟩ => ?_
  cases k with
  | true => rw [if_pos rfl] at h1 ⊢; exact h1 _ _ (Ex.refl _) S1.1
  | false => rw [if_neg (by decide)] at h1 ⊢; exact ⟨F, Hk1, bp, ρ1, S1, h1⟩
theorem rd_notT {a : MT} {σ : St} {H : Hp} {Q : Bool → Hp → Prop} (h : rdT c (mNotT a) σ H Q) : tNot (rdT c a) σ H Q := by
  obtain ⟨F, Hk, bp, ρ, S, h⟩ := h
  exact rdTw (bT postT S h) fun k H1 ⟨Hk1, ρ1, x1, S1, h1⟩ => h1 _ _ (Ex.refl _) S1.1
theorem mw_one_and {a : Expr} {m : MT} {pos : Pos} (h : PT X a (rdT c m)) : PW X (.BoolOp .And [a] pos) (rdT c m) := pw_and1 h
theorem mw_one_or {a : Expr} {m : MT} {pos : Pos} (h : PT X a (rdT c m)) : PW X (.BoolOp .Or [a] pos) (rdT c m) := pw_or1 h
theorem mw_and {a b : Expr} {r : List Expr} {m n : MT} {pos : Pos} (h : PT X a (rdT c m)) (g : PW X (.BoolOp .And (b :: r) pos) (rdT c n)) : PW X (.BoolOp .And (a :: b :: r) pos) (rdT c (mAndT m n)) := PWw (pw_and h g) fun _ _ _ q => rd_andT q
theorem mw_or {a b : Expr} {r : List Expr} {m n : MT} {pos : Pos} (h : PT X a (rdT c m)) (g : PW X (.BoolOp .Or (b :: r) pos) (rdT c n)) : PW X (.BoolOp .Or (a :: b :: r) pos) (rdT c (mOrT m n)) := PWw (pw_or h g) fun _ _ _ q => rd_orT q
theorem mt_not {a : Expr} {m : MT} {pos : Pos} (h : PT X a (rdT c m)) : PT X (.UnaryOp .Not a pos) (rdT c (mNotT m)) := PTw (pt_not h) fun _ _ _ q => rd_notT q
theorem okBv {F Hk : Hp} {bp : List (Nat × Addr)} {σ : St} {Q : VK} {r : Res (Bool × Env)} (h : okT c F Hk bp σ (fun k H => Q (.bl k) H) r) : okE c F Hk bp σ Q (r.bind fun x ρ1 => .ok (.bl x, ρ1)) := by
  cases r with
  | ok a =>
    intro Hk2 H2 v x S rv
    rw [RV.bl.mp rv]
    exact h Hk2 H2 x S
  | exc e ρ => exact h
  | stuck => exact h
theorem rdBv {t : MT} {σ : St} {H : Hp} {Q : VK} (h : rdT c t σ H fun k H1 => Q (.bl k) H1) : rdE c (mBv t) σ H Q := let ⟨F, Hk, bp, ρ, S, q⟩ := h; ⟨F, Hk, bp, ρ, S, okBv q⟩
theorem rdBv' {t : MT} {σ : St} {H : Hp} {Q : VK} (h : rdE c (mBv t) σ H Q) : rdT c t σ H fun k H1 => Q (.bl k) H1 := by
  obtain ⟨F, Hk, bp, ρ, S, h⟩ := h
  exact rdTw (bT postE S h) fun k H1 ⟨Hk1, ρ1, x1, S1, h1⟩ => h1 _ _ _ (Ex.refl _) S1.1 (RV.bl.mpr rfl)
end
end Tm
set_option Elab.async false
set_option linter.all false
set_option maxRecDepth 100000
set_option maxHeartbeats 2000000
namespace Tm
open PySem L2
open Evl (Ex ex_rd ex_l ex_t)
section
variable {X : Cx} {c : Ct}
theorem rd_oneV {a : ME} {σ : St} {H : Hp} {Q : VK} (h : rdE c (mBv (mTest a)) σ H Q) : rdE c a σ H Q := rdw (rd_test (rdBv' h)) fun v H1 ⟨k, e, q⟩ => by rw [e]; exact q
theorem me_one {op : BoolOp} {a : Expr} {m : ME} {pos : Pos} (h : PE X a (rdE c m)) : PE X (.BoolOp op [a] pos) (rdE c (mBv (mTest m))) := PEw (pe_one h) fun _ _ _ q => rd_oneV q
theorem me_and {a b : Expr} {r : List Expr} {m : ME} {t : MT} {pos : Pos} (h : PE X a (rdE c m)) (g : PE X (.BoolOp .And (b :: r) pos) (rdE c (mBv t))) : PE X (.BoolOp .And (a :: b :: r) pos) (rdE c (mBv (mAndT (mTest m) t))) :=
  PEw (pe_and h g) fun σ H Q q => rdw (rd_test (rd_andT (rdBv' q))) fun v H1 ⟨k, e, q⟩ => ⟨k, e, by
    cases k with
    | true => rw [if_pos rfl] at q ⊢; exact rdBv q
    | false => rw [if_neg (by decide)] at q ⊢; exact q⟩
def mUn (f : MV → Option MV) (a : ME) : ME := fun ρ => (a ρ).bind fun x ρ1 => match f x with | some z => .ok (z, ρ1) | none => .stuck
def fNeg : MV → Option MV
  | .int i => some (.int (-i))
  | _ => none
def UnS (K : PySem.W.Frag) (f : MV → Option MV) (r : V → Hp → VK → Prop) : Prop := ∀ (x z : MV) (v : V) (Hk H : Hp) (Q : VK), f x = some z → Ex Hk H → RV K Hk x v → (∀ u, RV K Hk z u → Q u H) →
  (∀ p o, H p = none → RV K (upd Hk p o) z (.ref p) → Q (.ref p) (upd H p o)) → r v H Q
theorem unEnd {f : MV → Option MV} {r : V → Hp → VK → Prop} (o : UnS c.K f r) {F Hk H : Hp} {bp : List (Nat × Addr)} {σ : St} {ρ : Env} {Q : VK} {x : MV} {v : V} (S : At c F Hk H bp σ ρ) (r1 : RV c.K Hk x v)
    (h : okE c F Hk bp σ Q (match f x with | some z => .ok (z, ρ) | none => .stuck)) : r v H Q := by
  cases e : f x with
  | none => rw [e] at h; exact h.elim
  | some z =>
    rw [e] at h
    exact o x z v Hk H Q e S.1.ex r1 (fun u ru => h _ _ u (Ex.refl _) S.1 ru) fun p ob hp ru => h _ _ _ (Ex.new (S.1.ex.back hp)) (S.1.new hp) ru
theorem rd_un {f : MV → Option MV} {r : V → Hp → VK → Prop} (o : UnS c.K f r) {a : ME} {σ : St} {H : Hp} {Q : VK} (h : rdE c (mUn f a) σ H Q) : tUn r (rdE c a) σ H Q := by
  obtain ⟨F, Hk, bp, ρ, S, h⟩ := h
  exact rdw (bE postE S h) fun v H1 ⟨Hk1, x, ρ1, x1, S1, r1, h1⟩ => unEnd o S1 r1 h1
theorem us_neg {K : PySem.W.Frag} : UnS K fNeg (rU fun i => .int (-i)) := by
  intro x z v Hk H Q e ex r1 q qn
  unfold fNeg at e
  split at e
  · cases e; exact ⟨_, RV.int.mp r1, q _ (RV.int.mpr rfl)⟩
  · cases e
theorem me_neg {a : Expr} {m : ME} {pos : Pos} (h : PE X a (rdE c m)) : PE X (.UnaryOp .USub a pos) (rdE c (mUn fNeg m)) := PEw (pe_un un_neg h) fun _ _ _ q => rd_un us_neg q
def mNil : MA := fun ρ => .ok ([], ρ)
def mCons (a : ME) (b : MA) : MA := fun ρ => (a ρ).bind fun x ρ1 => (b ρ1).bind fun xs ρ2 => .ok (x :: xs, ρ2)
theorem ma_nil : PA X [] (rdA c mNil) := PAw pa_nil fun σ H Q h => by
  obtain ⟨F, Hk, bp, ρ, S, h⟩ := h
  exact h _ _ _ (Ex.refl _) S.1 (RVs.nil.mpr rfl)
theorem ma_cons {e : Expr} {es : List Expr} {a : ME} {b : MA} (ha : PE X e (rdE c a)) (hb : PA X es (rdA c b)) (hs : starEach (e :: es) X.env = (false, eval e X.env) :: starEach es X.env := by rfl) : PA X (e :: es) (rdA c (mCons a b)) :=
  PAw (pa_cons ha hb hs) fun σ H Q h => by
    obtain ⟨F, Hk, bp, ρ, S, h⟩ := h
    refine rdw (bE postA S h) fun v H1 ⟨Hk1, x, ρ1, x1, S1, r1, h1⟩ => ?_
    refine rdAw (bA postA S1 h1) fun vs H2 ⟨Hk2, xs, ρ2, x2, S2, r2, h2⟩ => ?_
    exact h2 _ _ _ (Ex.refl _) S2.1 (RVs.cons.mpr ⟨v, vs, rfl, RV.mono x2 _ _ r1, r2⟩)
def mTup (a : MA) : ME := fun ρ => (a ρ).bind fun xs ρ1 => if szOk xs.length then .ok (.tup xs, ρ1) else .stuck
def mLst (a : MA) : ME := fun ρ => (a ρ).bind fun xs ρ1 => if szOk xs.length then .ok (.lst xs, ρ1) else .stuck
def mLstO (a : MA) : ME := fun ρ => (a ρ).bind fun xs ρ1 => if szOk xs.length then .ok (.own xs, ρ1) else .stuck
theorem me_tup {es : List Expr} {a : MA} {pos : Pos} {k : Nat} (h : PA X es (rdA c a)) : PE X (.Tuple es k pos) (rdE c (mTup a)) := PEw (pe_tup h) fun σ H Q h => by
  obtain ⟨F, Hk, bp, ρ, S, h⟩ := h
  refine rdAw (bA postE S h) fun vs H1 ⟨Hk1, xs, ρ1, x1, S1, r1, h1⟩ => ?_
  split at h1
  · rename_i hz
    refine ⟨by rw [r1.length]; exact szOk_iff.mp hz, fun p hp => h1 _ _ _ (Ex.new (S1.1.ex.back hp)) (S1.1.new hp) (RV.tup.mpr ⟨p, vs, rfl, SqT.of upd_same, r1.mono (Ex.new (S1.1.ex.back hp))⟩)⟩
  · exact h1.elim
theorem me_lst {es : List Expr} {a : MA} {pos : Pos} (h : PA X es (rdA c a)) : PE X (.List es pos) (rdE c (mLst a)) := PEw (pe_lst h) fun σ H Q h => by
  obtain ⟨F, Hk, bp, ρ, S, h⟩ := h
  refine rdAw (bA postE S h) fun vs H1 ⟨Hk1, xs, ρ1, x1, S1, r1, h1⟩ => ?_
  split at h1
  · rename_i hz
    refine ⟨by rw [r1.length]; exact szOk_iff.mp hz, fun p hp => h1 _ _ _ (Ex.new (S1.1.ex.back hp)) (S1.1.new hp) (RV.lst.mpr ⟨p, vs, rfl, upd_same, r1.mono (Ex.new (S1.1.ex.back hp))⟩)⟩
  · exact h1.elim
theorem mo_lst {es : List Expr} {a : MA} {pos : Pos} (h : PA X es (rdA c a)) : PE X (.List es pos) (rdO c (mLstO a)) := PEw (pe_lst h) fun σ H Q h => by
  obtain ⟨F, Hk, bp, ρ, S, h⟩ := h
  refine rdAw (bA postO S h) fun vs H1 ⟨Hk1, xs, ρ1, x1, S1, r1, h1⟩ => ?_
  split at h1
  · rename_i hz
    exact ⟨by rw [r1.length]; exact szOk_iff.mp hz, fun p hp => h1 _ _ _ (Ex.refl _) (S1.1.pushOwn hp r1)⟩
  · exact h1.elim
theorem me_ix {a b : Expr} {ma mb : ME} {pos : Pos} (ha : PE X a (rdE c ma)) (hb : PE X b (rdE c mb)) (hK : c.K = X.K := by rfl) (hs : PlainIx b := by exact fun _ _ => rfl) : PE X (.Subscript a b pos) (rdE c (mOp fIx ma mb)) :=
  PEw (pe_ix ix_seq ha hb hs) fun _ _ _ q => rd_op (by rw [hK]; exact os_ix) q
theorem flat_rv {K : PySem.W.Frag} {H H' : Hp} {z : MV} {u : V} (h : flatM z = true) (r : RV K H z u) : RV K H' z u := by
  unfold flatM at h
  split at h <;> first | (cases h; done) | skip
  · rw [RV.non] at r ⊢; exact r
  · rw [RV.bl] at r ⊢; exact r
  · rw [RV.int] at r ⊢; exact r
  · rw [RV.str] at r ⊢; exact r
def has (ρ : Env) (i : Nat) : Bool := match ρ[i]? with | some (some _) => true | _ => false
theorem has_rs {F Hk H : Hp} {bp : List (Nat × Addr)} {σ : St} {ρ : Env} {i : Nat} (S : At c F Hk H bp σ ρ) (e : has ρ i = true) : ∃ v, σ[i]? = some (some v) := by
  unfold has at e
  split at e
  · rename_i x h
    obtain ⟨ow, s⟩ := S.1.ow
    obtain ⟨v, ev, _⟩ := s.s i x h
    exact ⟨v, ev⟩
  · cases e
def ixL (xs : List MV) : MV → Option MV
  | .int k => atI xs k
  | _ => none
def ixV (ρ : Env) (i : Nat) (y : MV) : Option MV := match ρ[i]? with
  | some (some (.own xs)) => ixL xs y
  | some (some x) => if x.per then fIx x y else none
  | _ => none
def mIxV (i : Nat) (b : ME) : ME := fun ρ => if has ρ i then (b ρ).bind fun y ρ1 => match ixV ρ1 i y with | some z => .ok (z, ρ1) | none => .stuck else .stuck
theorem rd_ixV {i : Nat} {b : ME} {σ : St} {H : Hp} {Q : VK} (h : rdE c (mIxV i b) σ H Q) : tOp (rIx c.K) (tVar i) (rdE c b) σ H Q := by
  obtain ⟨F, Hk, bp, ρ, S, h⟩ := h
  unfold mIxV at h
  split at h
  · rename_i hh
    obtain ⟨v, ev⟩ := has_rs S hh
    refine ⟨v, ev, ?_⟩
    refine rdw (bE postE S h) fun w H1 ⟨Hk1, y, ρ1, x1, S1, r1, h1⟩ => ?_
    cases e : ixV ρ1 i y with
    | none => rw [e] at h1; exact h1.elim
    | some z =>
      rw [e] at h1
      unfold ixV at e
      split at e
      · rename_i xs hx
        obtain ⟨p, vs, e1, e2, e3, e4, e5⟩ := S1.1.getOwn hx
        rw [ev] at e1
        cases e1
        unfold ixL at e
        split at e
        · obtain ⟨u, eu, ru⟩ := atI_rv e3 e
          exact .inl ⟨p, vs, _, u, rfl, RV.int.mp r1, SqL.of e2, eu, h1 _ _ u (Ex.refl _) S1.1 ru⟩
        · cases e
      · rename_i x n hx
        split at e
        · rename_i hp
          obtain ⟨w2, e1, r2⟩ := S1.1.get hx hp
          rw [ev] at e1
          cases e1
          exact os_ix _ _ _ _ _ Hk1 H1 Q e S1.1.ex r2 r1 (fun u ru => h1 _ _ u (Ex.refl _) S1.1 ru) fun p ob hp' ru => h1 _ _ _ (Ex.new (S1.1.ex.back hp')) (S1.1.new hp') ru
        · cases e
      · cases e
  · exact h.elim
theorem me_ixV {i : Nat} {x : Str} {b : Expr} {mb : ME} {pos pos' : Pos} (hN : X.N[i]? = some x) (hv : Vis X.env.scope x) (hb : PE X b (rdE c mb)) (hK : c.K = X.K := by rfl) (hs : PlainIx b := by exact fun _ _ => rfl) (hd : (x == ("__debug__" : Str)) = false := by decide) (hcd : (x == ("__classdict__" : Str)) = false := by decide) :
    PE X (.Subscript (.Name x pos') b pos) (rdE c (mIxV i mb)) := PEw (pe_ix ix_seq (pe_var hN hv hd hcd) hb hs) fun _ _ _ q => by rw [← hK]; exact rd_ixV q
def mNo : Env → Res (Option Int × Env) := fun ρ => .ok (none, ρ)
def mPart (a : ME) : Env → Res (Option Int × Env) := fun ρ => (a ρ).bind fun x ρ1 => match x with | .int i => .ok (some i, ρ1) | _ => .stuck
def okP (c : Ct) (F Hk : Hp) (bp : List (Nat × Addr)) (σ : St) (Q : Option Int → Hp → Prop) : Res (Option Int × Env) → Prop
  | .ok (x, ρ') => ∀ Hk' H', Ex Hk Hk' → RS c.K F Hk' H' bp σ ρ' → Q x H'
  | .exc e ρ' => Wish c F Hk bp σ e ρ'
  | .stuck => False
theorem okP.mono {F Hk Hk' : Hp} {bp : List (Nat × Addr)} {σ : St} {Q : Option Int → Hp → Prop} {r : Res (Option Int × Env)} (x : Ex Hk Hk') (h : okP c F Hk bp σ Q r) : okP c F Hk' bp σ Q r := by
  cases r with
  | ok a => exact fun Hk2 H2 x2 => h Hk2 H2 (x.trans x2)
  | exc e ρ => exact Wish.mono x h
  | stuck => exact h
theorem postP {F : Hp} {bp : List (Nat × Addr)} {σ : St} {Q : Option Int → Hp → Prop} : Post c F bp σ fun Hk r => okP c F Hk bp σ Q r := ⟨fun _ _ _ h => h, fun _ h => h, fun _ _ _ x h => okP.mono x h⟩
def rdP (c : Ct) (m : Env → Res (Option Int × Env)) : TO := fun σ H Q => ∃ F Hk bp ρ, At c F Hk H bp σ ρ ∧ okP c F Hk bp σ Q (m ρ)
theorem POw {e : Option Expr} {t t' : TO} (h : PO X e t) (w : ∀ σ H Q, t' σ H Q → t σ H Q) : PO X e t' := ⟨fun pins s σ H Q I q => h.run pins s σ H Q I (w σ H Q q)⟩
theorem mp_none : PO X none (rdP c mNo) := POw po_none fun σ H Q ⟨F, Hk, bp, ρ, S, h⟩ => h _ _ (Ex.refl _) S.1
theorem mp_some {e : Expr} {m : ME} (h : PE X e (rdE c m)) : PO X (some e) (rdP c (mPart m)) := POw (po_some h) fun σ H Q ⟨F, Hk, bp, ρ, S, h⟩ => rdw (bE postP S h) fun v H1 ⟨Hk1, x, ρ1, x1, S1, r1, h1⟩ => by
  cases x with
  | int i => exact ⟨i, RV.int.mp r1, h1 _ _ (Ex.refl _) S1.1⟩
  | _ => exact h1.elim
theorem bP {F Hk H : Hp} {bp : List (Nat × Addr)} {σ : St} {ρ : Env} {β : Type} {P : Hp → Res (β × Env) → Prop} (p : Post c F bp σ P) {a : Env → Res (Option Int × Env)} {k : Option Int → Env → Res (β × Env)} (S : At c F Hk H bp σ ρ) (h : P Hk ((a ρ).bind k)) :
    rdP c a σ H fun b H1 => ∃ Hk1 ρ1, Ex Hk Hk1 ∧ At c F Hk1 H1 bp σ ρ1 ∧ P Hk1 (k b ρ1) := by
  refine ⟨F, Hk, bp, ρ, S, ?_⟩
  cases e : a ρ with
  | stuck => rw [e] at h; exact p.st _ h
  | exc x ρ' => rw [e] at h; exact p.ex _ _ _ h
  | ok q =>
    rw [e] at h
    exact fun Hk1 H1 x1 S1 => ⟨Hk1, q.2, x1, ⟨S1, S.2⟩, p.mono _ _ _ x1 h⟩
def cutM (xs : List MV) (lo hi : Option Int) : List MV := (xs.drop (HT.sIx xs.length 0 lo)).take (HT.sIx xs.length xs.length hi - HT.sIx xs.length 0 lo)
theorem RVs.cut {K : PySem.W.Frag} {H : Hp} {xs : List MV} {vs : List V} (r : RVs K H xs vs) (lo hi : Option Int) : RVs K H (cutM xs lo hi) (cutV vs lo hi) := by
  unfold cutM cutV
  rw [r.length]
  exact (r.drop _).take _
def fSl : MV → Option Int → Option Int → Option MV
  | .lst xs, lo, hi => some (.lst (cutM xs lo hi))
  | .tup xs, lo, hi => some (.tup (cutM xs lo hi))
  | .str z, lo, hi => if szOk z.length then some (.str (cutS z lo hi)) else none
  | _, _, _ => none
def rSlM (K : PySem.W.Frag) : V → Option Int → Option Int → Hp → VK → Prop := fun x lo hi H Q => rSlL K x lo hi H Q ∨ rSlA K x lo hi H Q ∨ rSlS x lo hi H Q
theorem sl_M : SlR X (rSlM X.K) := SlR.or sl_list (SlR.or sl_tupA sl_str)
theorem whole_cut {xs : List MV} {lo hi : Option Int} (h : HT.sIx xs.length 0 lo = 0 ∧ HT.sIx xs.length xs.length hi = xs.length) : cutM xs lo hi = xs := by
  unfold cutM
  rw [h.1, h.2]
  simp
theorem os_sl {K : PySem.W.Frag} {x z : MV} {lo hi : Option Int} {v : V} {Hk H : Hp} {Q : VK} (e : fSl x lo hi = some z) (ex : Ex Hk H) (r1 : RV K Hk x v) (q : ∀ u, RV K Hk z u → Q u H)
    (qn : ∀ p o, H p = none → RV K (upd Hk p o) z (.ref p) → Q (.ref p) (upd H p o)) : rSlM K v lo hi H Q := by
  unfold fSl at e
  split at e
  · cases e
    obtain ⟨p1, vs, rfl, h1, s1⟩ := RV.lst.mp r1
    refine .inl ⟨p1, vs, rfl, SqL.of (ex _ _ h1), fun p hp => qn p _ hp ?_⟩
    exact RV.lst.mpr ⟨p, _, rfl, upd_same, (s1.cut lo hi).mono (Ex.new (ex.back hp))⟩
  · cases e
    obtain ⟨p1, vs, rfl, h1, s1⟩ := RV.tup.mp r1
    refine .inr (.inl ⟨p1, vs, rfl, ex_t ex h1, fun hw => ?_, fun hw p hp => qn p _ hp ?_⟩)
    · rw [s1.length] at hw
      rw [whole_cut hw] at q
      exact q _ r1
    · exact RV.tup.mpr ⟨p, _, rfl, SqT.of upd_same, (s1.cut lo hi).mono (Ex.new (ex.back hp))⟩
  · split at e
    · rename_i hz
      cases e
      exact .inr (.inr ⟨_, RV.str.mp r1, szOk_iff.mp hz, q _ (RV.str.mpr rfl)⟩)
    · cases e
  · cases e
def mSl (a : ME) (l h : Env → Res (Option Int × Env)) : ME := fun ρ => (a ρ).bind fun x ρ1 => (l ρ1).bind fun i ρ2 => (h ρ2).bind fun j ρ3 => match fSl x i j with | some z => .ok (z, ρ3) | none => .stuck
theorem rd_sl {a : ME} {l h' : Env → Res (Option Int × Env)} {σ : St} {H : Hp} {Q : VK} (h : rdE c (mSl a l h') σ H Q) : tSl (rSlM c.K) (rdE c a) (rdP c l) (rdP c h') σ H Q := by
  obtain ⟨F, Hk, bp, ρ, S, h⟩ := h
  refine rdw (bE postE S h) fun v H1 ⟨Hk1, x, ρ1, x1, S1, r1, h1⟩ => ?_
  have w : ∀ {m : Env → Res (Option Int × Env)} {σ : St} {H : Hp} {Q Q' : Option Int → Hp → Prop}, rdP c m σ H Q → (∀ v H, Q v H → Q' v H) → rdP c m σ H Q' := fun {m σ H Q Q'} ⟨F, Hk, bp, ρ, S, q⟩ w => ⟨F, Hk, bp, ρ, S, by
    cases e : m ρ with
    | ok a => rw [e] at q; exact fun Hk2 H2 x S => w _ _ (q Hk2 H2 x S)
    | exc e' ρ => rw [e] at q; exact q
    | stuck => rw [e] at q; exact q⟩
  refine w (bP postE S1 h1) fun i H2 ⟨Hk2, ρ2, x2, S2, h2⟩ => ?_
  refine w (bP postE S2 h2) fun j H3 ⟨Hk3, ρ3, x3, S3, h3⟩ => ?_
  have h3 : okE c F Hk3 bp σ Q (match fSl x i j with | some z => .ok (z, ρ3) | none => .stuck) := h3
  cases e : fSl x i j with
  | none => rw [e] at h3; exact h3.elim
  | some z =>
    rw [e] at h3
    exact os_sl e S3.1.ex (RV.mono (x2.trans x3) _ _ r1) (fun u ru => h3 _ _ u (Ex.refl _) S3.1 ru) fun p ob hp ru => h3 _ _ _ (Ex.new (S3.1.ex.back hp)) (S3.1.new hp) ru
theorem me_sl {a : Expr} {lo hi : Option Expr} {ma : ME} {ml mh : Env → Res (Option Int × Env)} {pos p2 : Pos} (ha : PE X a (rdE c ma)) (hl : PO X lo (rdP c ml)) (hh : PO X hi (rdP c mh)) (hK : c.K = X.K := by rfl) : PE X (.Subscript a (.Slice lo hi none p2) pos) (rdE c (mSl ma ml mh)) :=
  PEw (pe_slice sl_M ha hl hh) fun _ _ _ q => by rw [← hK]; exact rd_sl q
section
variable {a b : Expr} {ma mb : ME} {pos : Pos}
theorem me_add (ha : PE X a (rdE c ma)) (hb : PE X b (rdE c mb)) (hK : c.K = X.K := by rfl) : PE X (.BinOp a .Add b pos) (rdE c (mOp fAdd ma mb)) := me_op op_addM (by rw [← hK]; exact os_add) ha hb
theorem me_sub (ha : PE X a (rdE c ma)) (hb : PE X b (rdE c mb)) : PE X (.BinOp a .Sub b pos) (rdE c (mOp fSub ma mb)) := me_op op_sub os_sub ha hb
theorem me_mul (ha : PE X a (rdE c ma)) (hb : PE X b (rdE c mb)) (hK : c.K = X.K := by rfl) : PE X (.BinOp a .Mult b pos) (rdE c (mOp fMul ma mb)) := me_op op_mulM (by rw [← hK]; exact os_mul) ha hb
theorem me_div (ha : PE X a (rdE c ma)) (hb : PE X b (rdE c mb)) : PE X (.BinOp a .FloorDiv b pos) (rdE c (mOp fDiv ma mb)) := me_op op_divM os_div ha hb
theorem me_mod (ha : PE X a (rdE c ma)) (hb : PE X b (rdE c mb)) : PE X (.BinOp a .Mod b pos) (rdE c (mOp fMod ma mb)) := me_op op_modN os_mod ha hb
theorem me_pow (ha : PE X a (rdE c ma)) (hb : PE X b (rdE c mb)) : PE X (.BinOp a .Pow b pos) (rdE c (mOp fPow ma mb)) := me_op op_pow os_pow ha hb
theorem me_bitand (ha : PE X a (rdE c ma)) (hb : PE X b (rdE c mb)) : PE X (.BinOp a .BitAnd b pos) (rdE c (mOp fAnd ma mb)) := me_op op_and os_and ha hb
theorem me_bitor (ha : PE X a (rdE c ma)) (hb : PE X b (rdE c mb)) : PE X (.BinOp a .BitOr b pos) (rdE c (mOp fOr ma mb)) := me_op op_or os_or ha hb
end
end
end Tm
set_option Elab.async false
set_option linter.all false
set_option maxRecDepth 100000
set_option maxHeartbeats 2000000
namespace Tm
open PySem L2
open Evl (Ex ex_rd ex_l ex_t)
section
variable {X : Cx} {c : Ct}
abbrev MG := MV → Env → Option Env
def okG (c : Ct) (F Hk : Hp) (bp : List (Nat × Addr)) (Q : St → Hp → Prop) : Option Env → Prop
  | some ρ' => ∀ Hk' H' σ', Ex Hk Hk' → RS c.K F Hk' H' bp σ' ρ' → Q σ' H'
  | none => False
def rdG (c : Ct) (m : MG) : TG := fun v σ H Q => ∃ F Hk bp ρ x, At c F Hk H bp σ ρ ∧ RV c.K Hk x v ∧ okG c F Hk bp Q (m x ρ)
def rdGs (c : Ct) (m : List MV → Env → Option Env) : TGs := fun vs σ H Q => ∃ F Hk bp ρ xs, At c F Hk H bp σ ρ ∧ RVs c.K Hk xs vs ∧ okG c F Hk bp Q (m xs ρ)
theorem PGw {e : Expr} {t t' : TG} (h : PG X e t) (w : ∀ v σ H Q, t' v σ H Q → t v σ H Q) : PG X e t' := ⟨fun pins s σ H v u Q I r q => h.run pins s σ H v u Q I r (w v σ H Q q)⟩
theorem PGsw {e : List Expr} {t t' : TGs} (h : PGs X e t) (w : ∀ v σ H Q, t' v σ H Q → t v σ H Q) : PGs X e t' := ⟨fun pins s σ H v u Q I r q => h.run pins s σ H v u Q I r (w v σ H Q q)⟩
def gSet (i : Nat) : MG := fun x ρ => if i < ρ.length then some (ρ.set i (some x)) else none
theorem nb {bp : List (Nat × Addr)} {bs : List Nat} {i : Nat} (e : bp.map (·.1) = bs) (h : bs.contains i = false) : ∀ q ∈ bp, q.1 ≠ i := fun q hq z => by
  have m : i ∈ bs := by rw [← e, ← z]; exact List.mem_map.mpr ⟨q, hq, rfl⟩
  rw [List.contains_eq_mem] at h
  simp [m] at h
theorem rd_gname {i : Nat} (hb : c.bs.contains i = false) {v : V} {σ : St} {H : Hp} {Q : St → Hp → Prop} (h : rdG c (gSet i) v σ H Q) : gName i v σ H Q := by
  obtain ⟨F, Hk, bp, ρ, y, S, r, h⟩ := h
  unfold gSet at h
  split at h
  · rename_i hl
    exact h _ _ _ (Ex.refl _) (S.1.set hl r (nb S.2.1 hb))
  · exact h.elim
theorem mg_name {i : Nat} {x : Str} {pos : Pos} (hN : X.N.Nodup) (hi : X.N[i]? = some x) (hx : Loc X.env.scope x) (hb : c.bs.contains i = false := by rfl) (hf : X.fn x = true ∨ X.env.scope.names.lookup x = some .local := by first | exact .inl rfl | exact .inr rfl | assumption) : PG X (.Name x pos) (rdG c (gSet i)) :=
  PGw (pg_name hN hi hx hf) fun v σ H Q h => rd_gname hb h
def gsNil : List MV → Env → Option Env := fun xs ρ => match xs with | [] => some ρ | _ => none
def gsCons (a : MG) (b : List MV → Env → Option Env) : List MV → Env → Option Env := fun xs ρ => match xs with
  | x :: r => (match a x ρ with | some ρ1 => b r ρ1 | none => none)
  | [] => none
def gTp (n : Nat) (b : List MV → Env → Option Env) : MG := fun x ρ => match x with
  | .tup xs => if xs.length = n then b xs ρ else none
  | .lst xs => if xs.length = n then b xs ρ else none
  | _ => none
theorem PGor {e : Expr} {t t' : TG} (h : PG X e t) (g : PG X e t') : PG X e fun v σ H Q => t v σ H Q ∨ t' v σ H Q := ⟨fun pins s σ H v u Q I r q => by
  rcases q with q | q
  · exact h.run pins s σ H v u Q I r q
  · exact g.run pins s σ H v u Q I r q⟩
theorem mgs_nil : PGs X [] (rdGs c gsNil) := PGsw pgs_nil fun vs σ H Q ⟨F, Hk, bp, ρ, xs, S, r, h⟩ => by
  cases xs with
  | nil => exact ⟨RVs.nil.mp r, h _ _ _ (Ex.refl _) S.1⟩
  | cons x xs => exact h.elim
theorem mgs_cons {e : Expr} {es : List Expr} {a : MG} {b : List MV → Env → Option Env} (h1 : PG X e (rdG c a)) (h2 : PGs X es (rdGs c b)) (hs : (assignEach (e :: es) X.env).map (·.2) = assign e X.env :: (assignEach es X.env).map (·.2) := by rfl) : PGs X (e :: es) (rdGs c (gsCons a b)) := PGsw (pgs_cons h1 h2 hs) fun vs σ H Q ⟨F, Hk, bp, ρ, xs, S, r, h⟩ => by
  cases xs with
  | nil => exact h.elim
  | cons x xs =>
    obtain ⟨v, us, rfl, r1, r2⟩ := RVs.cons.mp r
    refine ⟨v, us, rfl, F, Hk, bp, ρ, x, S, r1, ?_⟩
    have h : okG c F Hk bp Q (match a x ρ with | some ρ1 => b xs ρ1 | none => none) := h
    cases e : a x ρ with
    | none => rw [e] at h; exact h
    | some ρ1 =>
      rw [e] at h
      intro Hk1 H1 σ1 x1 S1
      refine ⟨F, Hk1, bp, ρ1, xs, ⟨S1, S.2⟩, r2.mono x1, ?_⟩
      have h : okG c F Hk bp Q (b xs ρ1) := h
      cases e2 : b xs ρ1 with
      | none => rw [e2] at h; exact h
      | some ρ2 => rw [e2] at h; exact fun Hk2 H2 σ2 x2 => h Hk2 H2 σ2 (x1.trans x2)
theorem mg_tup {es : List Expr} {k : Nat} {b : List MV → Env → Option Env} {n : Nat} {pos : Pos} (hc : X.calm = true) (h : PGs X es (rdGs c b)) (hK : c.K = X.K := by rfl)
    (hn : (assignEach es X.env).length = n := by rfl) (hst : (assignEach es X.env).findIdx? (·.1) = none := by rfl) : PG X (.Tuple es k pos) (rdG c (gTp n b)) := PGw (PGor (pg_tup hc h hn hst) (pg_unl hc h hn hst)) fun v σ H Q ⟨F, Hk, bp, ρ, x, S, r, h⟩ => by
  unfold gTp at h
  split at h
  · split at h
    · rename_i xs hl
      obtain ⟨a, vs, rfl, h1, s1⟩ := RV.tup.mp r
      rw [← hK]
      exact .inl ⟨a, vs, rfl, ex_t S.1.ex h1, by rw [s1.length]; exact hl, F, Hk, bp, ρ, xs, S, s1, h⟩
    · exact h.elim
  · split at h
    · rename_i xs hl
      obtain ⟨a, vs, rfl, h1, s1⟩ := RV.lst.mp r
      rw [← hK]
      exact .inr ⟨a, vs, rfl, SqL.of (S.1.ex _ _ h1), by rw [s1.length]; exact hl, F, Hk, bp, ρ, xs, S, s1, h⟩
    · exact h.elim
  · exact h.elim
def mAsg (a : ME) (g : MG) : MS := fun ρ => (a ρ).bind fun x ρ1 => match g x ρ1 with | some ρ2 => .ok (.nx, ρ2) | none => .stuck
theorem rd_asg {a : ME} {g : MG} {D : Ends} {σ : St} {H : Hp} (h : rdS c (mAsg a g) D σ H) : tAsg (rdE c a) (rdG c g) D σ H := by
  obtain ⟨F, Hk, bp, ρ, S, h⟩ := h
  refine rdw (bE (postS (σ := σ)) S h) fun v H1 ⟨Hk1, x, ρ1, x1, S1, r1, h1⟩ => ⟨F, Hk1, bp, ρ1, x, S1, r1, ?_⟩
  have h1 : okS c F Hk1 bp D (match g x ρ1 with | some ρ2 => .ok (.nx, ρ2) | none => .stuck) := h1
  cases e : g x ρ1 with
  | none => rw [e] at h1; exact h1
  | some ρ2 => rw [e] at h1; exact h1
theorem ms_asg {tg e : Expr} {a : ME} {g : MG} {pos : Pos} (he : PE X e (rdE c a)) (hg : PG X tg (rdG c g)) (hs : swapsWithSole [tg] e pos.line X.env = pure false := by rfl) (hw : swappedStores [tg] e X.env = pure none := by rfl)
    (h1 : (assignEach [tg] X.env).map (·.2) = [assign tg X.env] := by rfl) : PS X (.Assign [tg] e pos) (rdS c (mAsg a g)) := PSw (ps_asg he hg hs hw h1) fun _ _ _ h => rd_asg h
theorem rd_set {i : Nat} (hb : c.bs.contains i = false) {a : ME} {D : Ends} {σ : St} {H : Hp} (h : rdS c (mAsg a (gSet i)) D σ H) : tAsg (rdE c a) (gName i) D σ H := rdw (rd_asg h) fun _ _ q => rd_gname hb q
theorem ms_set {i : Nat} {x : Str} {e : Expr} {a : ME} {pos pos' : Pos} (hN : X.N.Nodup) (hi : X.N[i]? = some x) (hx : Loc X.env.scope x) (he : PE X e (rdE c a)) (hb : c.bs.contains i = false := by rfl) (hs : swapsWith e (some (.Name x pos')) pos.line X.env = pure false := by rfl)
    (hf : X.fn x = true ∨ X.env.scope.names.lookup x = some .local := by first | exact .inl rfl | exact .inr rfl | assumption) : PS X (.Assign [.Name x pos'] e pos) (rdS c (mAsg a (gSet i))) := PSw (ps_set hN hi hx he hs hf) fun _ _ _ h => rd_set hb h
def mSetO (i : Nat) (a : ME) : MS := fun ρ => (a ρ).bind fun x ρ1 => if i < ρ1.length then .ok (.nx, ρ1.set i (some x)) else .stuck
theorem rd_setO {i : Nat} {a : ME} {D : Ends} {σ : St} {H : Hp} (hb : c.bs.contains i = false) (h : rdS c (mSetO i a) D σ H) : tAsg (rdO c a) (gName i) D σ H := by
  obtain ⟨F, Hk, bp, ρ, S, h⟩ := h
  refine rdOw (bO (postS (σ := σ)) S h) fun v H1 ⟨Hk1, x, ρ1, x1, S1, h1⟩ => ?_
  split at h1
  · rename_i hl
    refine h1 _ _ _ (Ex.refl _) (S1.take hl fun q hq => ⟨nb S.2.1 hb q hq, ?_⟩)
    have l1 : σ.length = ρ1.length := by have := S1.len; simpa using this
    rw [← l1]
    exact lt_get (S.1.bor q hq)
  · exact h1.elim
theorem ms_setO {i : Nat} {x : Str} {e : Expr} {a : ME} {pos pos' : Pos} (hN : X.N.Nodup) (hi : X.N[i]? = some x) (hx : Loc X.env.scope x) (he : PE X e (rdO c a)) (hb : c.bs.contains i = false := by rfl) (hs : swapsWith e (some (.Name x pos')) pos.line X.env = pure false := by rfl)
    (hf : X.fn x = true ∨ X.env.scope.names.lookup x = some .local := by first | exact .inl rfl | exact .inr rfl | assumption) : PS X (.Assign [.Name x pos'] e pos) (rdS c (mSetO i a)) := PSw (ps_set hN hi hx he hs hf) fun _ _ _ h => rd_setO hb h
def mPass : MS := fun ρ => .ok (.nx, ρ)
def mSeq (a b : MS) : MS := fun ρ => (a ρ).bind fun f ρ1 => match f with | .nx => b ρ1 | f => .ok (f, ρ1)
theorem okS.seq {F Hk : Hp} {bp : List (Nat × Addr)} {D : Ends} {b : MS} (eb : bp.map (·.1) = c.bs ∧ c.J F bp) {r : Res (Fl × Env)} (h : okS c F Hk bp D (r.bind fun f ρ1 => match f with | .nx => b ρ1 | f => .ok (f, ρ1))) : okS c F Hk bp { D with nx := rdS c b D } r := by
  cases r with
  | stuck => exact h
  | exc e ρ => exact h
  | ok q =>
    obtain ⟨f, ρ1⟩ := q
    cases f with
    | nx => exact fun Hk1 H1 σ1 x1 S1 => ⟨F, Hk1, bp, ρ1, ⟨S1, eb⟩, okS.mono x1 h⟩
    | br => exact h
    | ct => exact h
    | rt x => exact h
theorem rd_seq {a b : MS} {D : Ends} {σ : St} {H : Hp} (h : rdS c (mSeq a b) D σ H) : tSeq (rdS c a) (rdS c b) D σ H := by
  obtain ⟨F, Hk, bp, ρ, S, h⟩ := h
  exact ⟨F, Hk, bp, ρ, S, okS.seq S.2 h⟩
theorem mss_nil : PSs X [] (rdS c mPass) := PSsw pss_nil fun D σ H ⟨F, Hk, bp, ρ, S, h⟩ => h _ _ _ (Ex.refl _) S.1
theorem mss_one {st : Stmt} {a : MS} (h : PS X st (rdS c a)) : PSs X [st] (rdS c a) := pss_one h
theorem mss_cons {st : Stmt} {r : List Stmt} {a b : MS} (h : PS X st (rdS c a)) (g : PSs X r (rdS c b)) : PSs X (st :: r) (rdS c (mSeq a b)) := PSsw (pss_cons h g) fun _ _ _ q => rd_seq q
def mIfS (t : MT) (a b : MS) : MS := fun ρ => (t ρ).bind fun x ρ1 => if x then a ρ1 else b ρ1
theorem ms_if {t : Expr} {a b : List Stmt} {mt : MT} {ma mb : MS} {pos : Pos} (ht : PT X t (rdT c mt)) (ha : PSs X a (rdS c ma)) (hb : PSs X b (rdS c mb)) : PS X (.If t a b pos) (rdS c (mIfS mt ma mb)) := PSw (ps_if ht ha hb) fun D σ H ⟨F, Hk, bp, ρ, S, h⟩ => by
  refine rdTw (bT (postS (σ := σ)) S h) fun k H1 ⟨Hk1, ρ1, x1, S1, h1⟩ => ?_
  cases k with
  | true => rw [if_pos rfl] at h1 ⊢; exact ⟨F, Hk1, bp, ρ1, S1, h1⟩
  | false => rw [if_neg (by decide)] at h1 ⊢; exact ⟨F, Hk1, bp, ρ1, S1, h1⟩
def mRet (a : ME) : MS := fun ρ => (a ρ).bind fun x ρ1 => .ok (.rt x, ρ1)
theorem ms_ret {e : Expr} {a : ME} {pos : Pos} (h : PE X e (rdE c a)) : PS X (.Return (some e) pos) (rdS c (mRet a)) := PSw (ps_ret h) fun D σ H ⟨F, Hk, bp, ρ, S, h⟩ =>
  rdw (bE (postS (σ := σ)) S h) fun v H1 ⟨Hk1, x, ρ1, x1, S1, r1, h1⟩ => h1 _ _ _ _ (Ex.refl _) (fun q hq => lt_get (S.1.bor q hq)) (S1.1.push r1)
theorem ms_retO {e : Expr} {a : ME} {pos : Pos} (h : PE X e (rdO c a)) : PS X (.Return (some e) pos) (rdS c (mRet a)) := PSw (ps_ret h) fun D σ H ⟨F, Hk, bp, ρ, S, h⟩ =>
  rdOw (bO (postS (σ := σ)) S h) fun v H1 ⟨Hk1, x, ρ1, x1, S1, h1⟩ => h1 _ _ _ _ (Ex.refl _) (fun q hq => lt_get (S.1.bor q hq)) S1
def mDrop (a : ME) : MS := fun ρ => (a ρ).bind fun _ ρ1 => .ok (.nx, ρ1)
theorem ms_expr {e : Expr} {a : ME} {pos : Pos} (h : PE X e (rdE c a)) (hs : swapsWith e none pos.line X.env = pure false := by rfl) : PS X (.Expr e pos) (rdS c (mDrop a)) := PSw (ps_expr h hs) fun D σ H ⟨F, Hk, bp, ρ, S, h⟩ =>
  rdw (bE (postS (σ := σ)) S h) fun v H1 ⟨Hk1, x, ρ1, x1, S1, r1, h1⟩ => h1 _ _ _ (Ex.refl _) S1.1
def mMove (i : Nat) : ME := fun ρ => match ρ[i]? with
  | some (some (.obj _ _)) => .stuck
  | some (some x) => .ok (x, ρ.set i none)
  | _ => .stuck
def mAug (f : MV → MV → Option MV) (i : Nat) (a : ME) : MS := fun ρ => match ρ[i]? with
  | some (some x) => if flatM x then (a ρ).bind fun y ρ1 => (match f x y with | some z => if decide (i < ρ1.length) && flatM z then .ok (.nx, ρ1.set i (some z)) else .stuck | none => .stuck) else .stuck
  | _ => .stuck
theorem rd_move {i : Nat} (hb : c.bs.contains i = false) {σ : St} {H : Hp} {Q : VK} (h : rdO c (mMove i) σ H Q) : tVar i σ H Q := by
  obtain ⟨F, Hk, bp, ρ, S, h⟩ := h
  unfold mMove at h
  split at h
  · exact h.elim
  · rename_i x n hx
    obtain ⟨ow, s⟩ := S.1.ow
    obtain ⟨v, ev, ov⟩ := s.s i x hx
    have li := lt_get hx
    refine ⟨v, ev, h Hk H v (Ex.refl _) ?_⟩
    refine ⟨by simp [S.1.len], S.1.ex, S.1.fr, S.1.frk, ⟨put (put ow i []) ρ.length (ow i), ?_⟩, S.1.bor_app _⟩
    have nl : i ≠ ρ.length := Nat.ne_of_lt li
    have mem : ∀ j a, a ∈ put (put ow i []) ρ.length (ow i) j → (j = ρ.length ∧ a ∈ ow i) ∨ (j ≠ i ∧ j < ρ.length ∧ a ∈ ow j) := fun j a h => by
      by_cases e : j = ρ.length
      · rw [e, put_same] at h; exact .inl ⟨e, h⟩
      · rw [put_ne e] at h
        by_cases e2 : j = i
        · rw [e2, put_same] at h; cases h
        · rw [put_ne e2] at h
          exact .inr ⟨e2, s.w j (by intro z; rw [z] at h; cases h), h⟩
    refine ⟨fun j y hj => ?_, fun j a hj => ?_, fun j hj => ?_, fun j k a hjk hj hk => ?_⟩
    · rcases app_get hj with ⟨e1, e2⟩ | ⟨lt, e2⟩
      · cases e2
        rw [List.length_set] at e1
        refine ⟨v, by rw [e1, ← S.1.len]; simp, ?_⟩
        rw [e1, put_same]; exact ov
      · rcases set_get e2 with ⟨_, e3⟩ | ⟨ne, e3⟩
        · cases e3
        · obtain ⟨w, w1, w2⟩ := s.s j y e3
          have lj := lt_get e3
          exact ⟨w, by rw [List.getElem?_append_left (by rw [S.1.len]; exact lj)]; exact w1, by rw [put_ne (Nat.ne_of_lt lj), put_ne ne]; exact w2⟩
    · rcases mem j a hj with ⟨_, m⟩ | ⟨_, _, m⟩
      · exact s.f i a m
      · exact s.f j a m
    · cases e : put (put ow i []) ρ.length (ow i) j with
      | nil => exact (hj e).elim
      | cons a r =>
        rcases mem j a (by rw [e]; simp) with ⟨e, _⟩ | ⟨_, l, _⟩
        · rw [e]; simp
        · simp; omega
    · rcases mem j a hj with ⟨e1, m⟩ | ⟨e1, l1, m⟩ <;> rcases mem k a hk with ⟨e2, m2⟩ | ⟨e2, l2, m2⟩
      · exact hjk (e1.trans e2.symm)
      · exact s.d i k a (Ne.symm e2) m m2
      · exact s.d j i a e1 m m2
      · exact s.d j k a hjk m m2
  · exact h.elim
theorem mo_var {i : Nat} {x : Str} {pos : Pos} (hN : X.N[i]? = some x) (hv : Vis X.env.scope x) (hb : c.bs.contains i = false := by rfl) (hd : (x == ("__debug__" : Str)) = false := by decide) (hcd : (x == ("__classdict__" : Str)) = false := by decide) : PE X (.Name x pos) (rdO c (mMove i)) :=
  PEw (pe_var hN hv hd hcd) fun _ _ _ h => rd_move hb h
def ipM (f : MV → MV → Option MV) (t : TIp) (K : PySem.W.Frag) : Prop := ∀ (x y z : MV) (v w : V) (Hk H : Hp) (Q : VK), f x y = some z → flatM x = true → RV K Hk x v → RV K Hk y w → (∀ u, RV K Hk z u → Q u H) → t v w H Q
theorem im_add {K : PySem.W.Frag} : ipM (fun x y => match x, y with | .int i, .int j => some (.int (i + j)) | _, _ => none) (ipI fun i j => i + j) K := by
  intro x y z v w Hk H Q e _ r1 r2 q
  dsimp only at e
  split at e
  · cases e; exact ⟨_, _, RV.int.mp r1, RV.int.mp r2, q _ (RV.int.mpr rfl)⟩
  · cases e
def fAddI : MV → MV → Option MV := fun x y => match x, y with | .int i, .int j => some (.int (i + j)) | _, _ => none
theorem rd_aug {f : MV → MV → Option MV} {t : TIp} (o : ipM f t c.K) {i : Nat} (hb : c.bs.contains i = false) {a : ME} {D : Ends} {σ : St} {H : Hp} (h : rdS c (mAug f i a) D σ H) : tAug i (rdE c a) t D σ H := by
  obtain ⟨F, Hk, bp, ρ, S, h⟩ := h
  unfold mAug at h
  split at h
  · rename_i x hx
    split at h
    · rename_i hf
      have px : x.per = true := by cases x <;> first | rfl | cases hf
      obtain ⟨v, ev, rv⟩ := S.1.get hx px
      refine ⟨v, ev, ?_⟩
      refine rdw (bE (postS (σ := σ)) S h) fun w H1 ⟨Hk1, y, ρ1, x1, S1, r1, h1⟩ => ?_
      split at h1
      · rename_i z ez
        split at h1
        · rename_i hl
          rw [Bool.and_eq_true] at hl
          refine o x y z v w Hk1 H1 _ ez hf (flat_rv hf rv) r1 fun u ru => ?_
          exact h1 _ _ _ (Ex.refl _) (S1.1.set (of_decide_eq_true hl.1) ru (nb S.2.1 hb))
        · exact h1.elim
      · exact h1.elim
    · exact h.elim
  · exact h.elim
theorem ms_augAdd {i : Nat} {x : Str} {e : Expr} {a : ME} {pos pos' : Pos} (hN : X.N.Nodup) (hi : X.N[i]? = some x) (hx : Loc X.env.scope x) (he : PE X e (rdE c a)) (hb : c.bs.contains i = false := by rfl)
    (hf : X.fn x = true ∨ X.env.scope.names.lookup x = some .local := by first | exact .inl rfl | exact .inr rfl | assumption) : PS X (.AugAssign (.Name x pos') .Add e pos) (rdS c (mAug fAddI i a)) := PSw (ps_aug hN hi hx he ip_add hf) fun _ _ _ h => rd_aug im_add hb h
end
end Tm
set_option Elab.async false
set_option linter.all false
set_option maxRecDepth 100000
set_option maxHeartbeats 2000000
namespace Tm
open PySem L2 PySem.Spec PyProof.Rows
structure ZSrc (P : Program) (w : World) (K : PySem.W.Frag) (it : Addr) (fp : List Addr) (S : Hp → List V → Prop) (tn : Nat → Heap → Prop) : Prop where
  obj : ∀ i h, tn i h → ∃ o, h.get? it = some o ∧ ∀ v, o.data ≠ .cell v
  keep : ∀ i h h', tn i h → (∀ o, h.get? it = some o → h'.get? it = some o) → tn i h'
  inj : ∀ (X : Cx), X.K = K → ∀ pins (s : Shared) σ H xs ys, Inv X pins σ H s → S H xs → S H ys → xs = ys
  draw : ∀ (X : Cx), X.prog = P → X.w = w → X.K = K → X.calm = true → ∀ pins (s : Shared) σ H xs i, Inv X pins σ H s → S H xs → tn i s.heap →
    ∃ (Y : Nat → Value → Prop) (St : Nat → Heap → Prop), Draws P w X.A.in1 it fp xs.length Y St ∧ St i s.heap ∧ (∀ j u, Y j u → ∃ x, xs[j]? = some x ∧ RelV x u) ∧ ∀ j h, St j h → tn j h
def ItzG (S1 S2 : Hp → List V → Prop) : It :=
  ⟨fun i H => ∃ (l1 l2 : List V) (x y : V), S1 H l1 ∧ S2 H l2 ∧ l1[i]? = some x ∧ l2[i]? = some y,
    fun i H v H' => ∃ p x y, v = .ref p ∧ H p = none ∧ H' = upd H p (.tup [x, y]) ∧ (∀ l, S1 H l → l[i]? = some x) ∧ ∀ l, S2 H l → l[i]? = some y,
    fun i H => ∃ l1 l2 : List V, S1 H l1 ∧ S2 H l2 ∧ (i = l1.length ∧ l1.length ≤ l2.length ∨ i = l2.length ∧ l2.length ≤ l1.length)⟩
section
variable {P : Program} {w : World} {K : PySem.W.Frag} {elts : List Expr} {kk : Nat} {tpos : Pos} {z TI TO i1 i2 : Addr} {f1 f2 : List Addr} {S1 S2 : Hp → List V → Prop} {tn1 tn2 : Nat → Heap → Prop}
theorem turn_zipG (D : ZipSep2 z TI TO i1 i2 f1 f2) (A1 : ZSrc P w K i1 f1 S1 tn1) (A2 : ZSrc P w K i2 f2 S2 tn2) :
    Turn P w K (.Tuple elts kk tpos) (ItzG S1 S2) [z, TI, TO, i1, i2] z (fun i h => (IsZip h z TI TO .none ∧ IsTupOf2 h TI (.ref i1) (.ref i2) ∧ ∃ x y, IsTupOf2 h TO x y) ∧ tn1 i h ∧ tn2 i h) where
  mem := List.mem_cons_self ..
  obj := by
    rintro i h ⟨⟨gz, gT, p0, q0, gO⟩, t1, t2⟩ c hc
    simp only [List.mem_cons, List.not_mem_nil, or_false] at hc
    rcases hc with rfl | rfl | rfl | rfl | rfl
    · exact ⟨_, gz, by intro v e; cases e⟩
    · exact ⟨_, gT, by intro v e; cases e⟩
    · exact ⟨_, gO, by intro v e; cases e⟩
    · exact A1.obj i h t1
    · exact A2.obj i h t2
  keep := by
    rintro i h h' ⟨⟨gz, gT, p0, q0, gO⟩, t1, t2⟩ hk
    exact ⟨⟨hk z (by simp) _ gz, hk TI (by simp) _ gT, p0, q0, hk TO (by simp) _ gO⟩, A1.keep i h h' t1 (hk i1 (by simp)), A2.keep i h h' t2 (hk i2 (by simp))⟩
  item := by
    intro X hP hw hK hc i pins s σ H E I hf st hg
    subst hP; subst hw; subst hK
    obtain ⟨⟨gz, gT, p0, q0, gO⟩, t1, t2⟩ := st
    obtain ⟨l1, l2, x, y, b1, b2, g1, g2⟩ := hg
    obtain ⟨Y1, St1, d1, e1, r1, k1⟩ := A1.draw X rfl rfl rfl hc pins s σ H l1 i I b1 t1
    obtain ⟨Y2, St2, d2, e2, r2, k2⟩ := A2.draw X rfl rfl rfl hc pins s σ H l2 i I b2 t2
    have m1 : i < l1.length := (List.getElem?_eq_some_iff.mp g1).1
    have m2 : i < l2.length := (List.getElem?_eq_some_iff.mp g2).1
    have zlt : z < s.heap.objs.size := Heap.lt_size gz
    refine wpAny_pyNext_zipD2_item D d1 d2 gz gT gO e1 e2 m1 m2 fun u1 u2 hp tk y1 y2 gz' gO' e1' e2' gN sz hk => ⟨_, rfl, ?_⟩
    obtain ⟨x', a1, v1⟩ := r1 i u1 y1
    obtain ⟨y', a2, v2⟩ := r2 i u2 y2
    rw [g1] at a1
    rw [g2] at a2
    cases a1
    cases a2
    refine wpAny_letOwnedTupleGo_zip (s := { s with heap := hp, toks := tk }) gz' fun hq gq sb => ?_
    have keep : ∀ c o, c ∉ [z, TI, TO, i1, i2] → s.heap.get? c = some o → hq.get? c = some o := by
      intro c o nc ec
      simp only [List.mem_cons, List.not_mem_nil, or_false, not_or] at nc
      exact (sb.2 c nc.1).trans (hk c o nc.1 nc.2.2.1 nc.2.2.2.1 nc.2.2.2.2 ec)
    have gT2 : IsTupOf2 hq s.heap.objs.size u1 u2 := (sb.2 _ (Nat.ne_of_gt zlt)).trans gN
    have new : ObjOk X.prog X.w (upd H s.heap.objs.size (.tup [x, y])) hq s.heap.objs.size (.tup [x, y]) :=
      ⟨by show 2 ≤ sizeLine; decide, [u1, u2], .cons v1 (.cons v2 .nil), ⟨_, gT2, rfl, _, rfl⟩⟩
    have I1 : Inv X pins σ (upd H s.heap.objs.size (.tup [x, y])) { s with heap := hq, toks := tk } := Inv.turnedNew I keep hf (Nat.le_refl _) new
    refine ⟨.ref s.heap.objs.size, _, I1, rfl, ⟨_, x, y, rfl, I.hok.fresh (Nat.le_refl _), rfl, fun l hl => ?_, fun l hl => ?_⟩, ⟨⟨gq, ?_, u1, u2, ?_⟩, ?_, ?_⟩, ?_⟩
    · rw [A1.inj X rfl pins s σ H l l1 I hl b1]; exact g1
    · rw [A2.inj X rfl pins s σ H l l2 I hl b2]; exact g2
    · exact (sb.2 TI D.TIz).trans (hk TI _ D.TIz D.TITO D.TIi1 D.TIi2 gT)
    · exact (sb.2 TO D.TOz).trans gO'
    · exact A1.keep _ hp hq (k1 _ _ e1') fun o e => (sb.2 i1 (Ne.symm D.zi1)).trans e
    · exact A2.keep _ hp hq (k2 _ _ e2') fun o e => (sb.2 i2 (Ne.symm D.zi2)).trans e
    · intro c hcm
      have clt : c < s.heap.objs.size := by
        simp only [List.mem_cons, List.not_mem_nil, or_false] at hcm
        rcases hcm with rfl | rfl | rfl | rfl | rfl
        · exact zlt
        · exact Heap.lt_size gT
        · exact Heap.lt_size gO
        · obtain ⟨o, eo, _⟩ := A1.obj i s.heap t1
          exact Heap.lt_size eo
        · obtain ⟨o, eo, _⟩ := A2.obj i s.heap t2
          exact Heap.lt_size eo
      rw [upd_ne (Nat.ne_of_lt clt)]
      exact (hf c hcm).1
  done := by
    intro X hP hw hK hc i pins s σ H E I hf st hg
    subst hP; subst hw; subst hK
    obtain ⟨⟨gz, gT, p0, q0, gO⟩, t1, t2⟩ := st
    obtain ⟨l1, l2, b1, b2, hend⟩ := hg
    obtain ⟨Y1, St1, d1, e1, r1, k1⟩ := A1.draw X rfl rfl rfl hc pins s σ H l1 i I b1 t1
    obtain ⟨Y2, St2, d2, e2, r2, k2⟩ := A2.draw X rfl rfl rfl hc pins s σ H l2 i I b2 t2
    refine wpAny_pyNext_zipD2_end D d1 d2 gz gT gO e1 e2 (by omega) (by omega) (by omega) fun hp tk hk => ⟨rfl, Inv.turnedL I (fun c o nc ec => ?_) hf⟩
    simp only [List.mem_cons, List.not_mem_nil, or_false, not_or] at nc
    exact hk c o nc.1 nc.2.2.1 nc.2.2.2.1 nc.2.2.2.2 ec
  self := fun A i s Q E st h => wpAny_pyIter_zip st.1.1 h
end
section
variable {P : Program} {w : World} {K : PySem.W.Frag}
theorem vals_back {xs : List V} {us : List Value} {j : Nat} {u : Value} (r : Vals xs us) (h : us[j]? = some u) : ∃ x, xs[j]? = some x ∧ RelV x u := by
  have lt : j < xs.length := by rw [r.length]; exact (List.getElem?_eq_some_iff.mp h).1
  obtain ⟨u', h1, h2⟩ := r.get (List.getElem?_eq_getElem lt)
  rw [h] at h1
  cases h1
  exact ⟨_, List.getElem?_eq_getElem lt, h2⟩
theorem zsrc_l {it a : Addr} (ne : a ≠ it) : ZSrc P w K it [it, a] (fun H xs => SqL K H a xs) (fun i h => h.IsListIter it a i) where
  obj := fun i h ⟨o, e, _, d⟩ => ⟨o, e, by intro v q; rw [d] at q; cases q⟩
  keep := fun i h h' t k => t.at k
  inj := fun X hK pins s σ H xs ys I h1 h2 => by subst hK; exact I.list_inj h1 h2
  draw := fun X hP hw hK hc pins s σ H xs i I h t => by
    subst hP; subst hw; subst hK
    obtain ⟨its, rv, p, _⟩ := I.list h
    have D := Draws.list (prog := X.prog) (w := X.w) (show X.A.in1.handled = none from I.ok.hd hc) it a ne its.toArray
    rw [show its.toArray.size = xs.length by rw [rv.length]; rfl] at D
    exact ⟨_, _, D, ⟨t, p.isList⟩, fun j u hu => vals_back rv (by simpa using hu), fun j h q => q.1⟩
theorem zsrc_t {it a : Addr} (ne : a ≠ it) : ZSrc P w K it [it, a] (fun H xs => SqT K H a xs) (fun i h => h.IsTupleIter it a i) where
  obj := fun i h ⟨o, e, _, d⟩ => ⟨o, e, by intro v q; rw [d] at q; cases q⟩
  keep := fun i h h' t k => t.at k
  inj := fun X hK pins s σ H xs ys I h1 h2 => by subst hK; exact I.tuple_inj h1 h2
  draw := fun X hP hw hK hc pins s σ H xs i I h t => by
    subst hP; subst hw; subst hK
    obtain ⟨its, rv, p, _⟩ := I.tuple h
    have D := Draws.tuple (prog := X.prog) (w := X.w) (show X.A.in1.handled = none from I.ok.hd hc) it a ne its.toArray
    rw [show its.toArray.size = xs.length by rw [rv.length]; rfl] at D
    exact ⟨_, _, D, ⟨t, p⟩, fun j u hu => vals_back rv (by simpa using hu), fun j h q => q.1⟩
def signsV (x : Str) : List V := x.cps.toList.map fun c => V.str ⟨#[c]⟩
theorem zsrc_s {it : Addr} {x : Str} {tk : Tok} : ZSrc P w K it [it] (fun _ xs => xs = signsV x) (fun i h => h.IsStrIter it (strIterType x) x tk i) where
  obj := fun i h ⟨o, e, _, d⟩ => ⟨o, e, by intro v q; rw [d] at q; cases q⟩
  keep := fun i h h' ⟨o, e, r⟩ k => ⟨o, k o e, r⟩
  inj := fun X hK pins s σ H xs ys I h1 h2 => by rw [h1, h2]
  draw := fun X hP hw hK hc pins s σ H xs i I h t => by
    subst hP; subst hw; subst h
    have D := Draws.text (prog := X.prog) (w := X.w) (show X.A.in1.handled = none from I.ok.hd hc) it x tk
    rw [show x.cps.size = (signsV x).length by simp [signsV]] at D
    refine ⟨_, _, D, t, fun j u ⟨c, k, h1, h2⟩ => ⟨.str ⟨#[c]⟩, ?_, ?_⟩, fun j h q => q⟩
    · unfold signsV
      rw [List.getElem?_map, Array.getElem?_toList, h1]; rfl
    · rw [h2]; exact ⟨k, rfl⟩
def ZArg (K : PySem.W.Frag) (H : Hp) (v : V) (S : Hp → List V → Prop) : Prop :=
  (∃ a xs, v = .ref a ∧ SqL K H a xs ∧ S = fun H xs => SqL K H a xs) ∨ (∃ a xs, v = .ref a ∧ SqT K H a xs ∧ S = fun H xs => SqT K H a xs) ∨ ∃ x, v = .str x ∧ S = fun _ xs => xs = signsV x
theorem zarg_begins {X : Cx} {pins : List (Addr × Obj)} {σ : L2.St} {H : Hp} {s : Shared} {v : V} {u : Value} {S : Hp → List V → Prop} (I : Inv X pins σ H s) (r : RelV v u) (h : ZArg X.K H v S) :
    ∃ (o : Obj) (Hb : Heap → Prop) (fp : List Addr), Begins u o Hb ∧ Hb s.heap ∧ (∀ b ∈ fp, b < s.heap.objs.size) ∧
      ∀ it, s.heap.objs.size ≤ it → ∃ tn : Nat → Heap → Prop, ZSrc X.prog X.w X.K it (it :: fp) S tn ∧ ∀ h', h'.get? it = some o → tn 0 h' := by
  rcases h with ⟨a, xs, rfl, hq, rfl⟩ | ⟨a, xs, rfl, hq, rfl⟩ | ⟨x, rfl, rfl⟩
  · cases r
    obtain ⟨its, rv, p, _⟩ := I.list hq
    have lt : a < s.heap.objs.size := p.lt
    exact ⟨_, _, [a], begins_list a its.toArray, p.isList, by simpa using lt, fun it hit => ⟨_, zsrc_l (Nat.ne_of_lt (Nat.lt_of_lt_of_le lt hit)), fun h' e => ⟨_, e, rfl, rfl⟩⟩⟩
  · cases r
    obtain ⟨its, rv, p, _⟩ := I.tuple hq
    have lt : a < s.heap.objs.size := by obtain ⟨o, e, _⟩ := id p; exact Heap.lt_size e
    exact ⟨_, _, [a], begins_tuple a its.toArray, p, by simpa using lt, fun it hit => ⟨_, zsrc_t (Nat.ne_of_lt (Nat.lt_of_lt_of_le lt hit)), fun h' e => ⟨_, e, rfl, rfl⟩⟩⟩
  · obtain ⟨tk, rfl⟩ := r
    exact ⟨_, _, [], begins_text x tk, trivial, by simp, fun it hit => ⟨_, zsrc_s, fun h' e => ⟨_, e, rfl, rfl⟩⟩⟩
end
def iZipG (K : PySem.W.Frag) (ta : TA) : TI := fun σ H R => ta σ H fun vs H1 => ∃ v1 v2 S1 S2, vs = [v1, v2] ∧ ZArg K H1 v1 S1 ∧ ZArg K H1 v2 S2 ∧ R (ItzG S1 S2) H1
theorem pi_zipG {X : Cx} {e e2 : Expr} {ta : TA} {p pos tpos : Pos} {elts : List Expr} {kk : Nat} (hg : Gl X "zip") (hm : X.mg "zip" = none) (ha : PA X [e, e2] ta)
    (hs : starEach [e, e2] X.env = (false, eval e X.env) :: starEach [e2] X.env := by rfl) (hpl : (backTo pos (starEach [e2] X.env)).any (·.1) = false := by rfl) :
    PI X (.Tuple elts kk tpos) (.Call (.Name "zip" p) [e, e2] [] pos) (iZipG X.K ta) := ⟨fun pins s σ H R I h => by
  refine Call_ (ld_blt I hg hm PyProof.Rows.boot_zip (PyProof.Rows.callWith_type1 (thn (ha.run pos pins s σ H _ I h) fun us s1 q => ?_) hs hpl))
  obtain ⟨vs, H1, I1, r1, v1, v2, S1, S2, ex, z1, z2, q⟩ := q
  subst ex
  cases r1 with
  | cons ra rr =>
    cases rr with
    | cons rb rr =>
      cases rr
      obtain ⟨o1, Hb1, fp1, B1, b1, lt1, k1⟩ := zarg_begins I1 ra z1
      obtain ⟨o2, Hb2, fp2, B2, b2, lt2, k2⟩ := zarg_begins I1 rb z2
      obtain ⟨tn1, A1, t1⟩ := k1 s1.heap.objs.size (Nat.le_refl _)
      obtain ⟨tn2, A2, t2⟩ := k2 (s1.heap.objs.size + 1) (Nat.le_add_right _ _)
      refine zip_begins2 B1 B2 b1 b2 fun h' gz gT gO g1 g2 sz hk => wpAny_pyIter_zip gz ?_
      have I2 : Inv X pins σ H1 { s1 with heap := h' } := I1.kept (t' := s1.toks) hk
      have new : ∀ c ∈ [s1.heap.objs.size + 4, s1.heap.objs.size + 2, s1.heap.objs.size + 3, s1.heap.objs.size, s1.heap.objs.size + 1], FpOk X pins H1 c := by
        intro c hc
        have le : s1.heap.objs.size ≤ c := by
          simp only [List.mem_cons, List.not_mem_nil, or_false] at hc
          rcases hc with rfl | rfl | rfl | rfl | rfl <;> first | exact Nat.le_refl _ | exact Nat.le_add_right _ _
        exact I1.fpOk le (I1.hok.fresh le)
      exact ⟨_, _, _, _, H1, rfl, I2, turn_zipG (zip_sep2 lt1 lt2) A1 A2, ⟨⟨gz, gT, _, _, gO⟩, t1 h' g1, t2 h' g2⟩, new, q⟩⟩
end Tm
set_option Elab.async false
set_option linter.all false
set_option maxRecDepth 100000
set_option maxHeartbeats 2000000
namespace Tm
open PySem L2
open Evl (Ex ex_rd ex_l ex_t)
structure Walks (K : PySem.W.Frag) (Hk : Hp) (J : It) (items : List MV) : Prop where
  go : ∀ i H, Ex Hk H → i < items.length → J.go i H
  stop : ∀ H, Ex Hk H → J.stop items.length H
  yld : ∀ i H x H', Ex Hk H → i < items.length → J.yld i H x H' → ∃ y, items[i]? = some y ∧ ((H' = H ∧ RV K Hk y x) ∨ ∃ p vs ys, H p = none ∧ H' = upd H p (.tup vs) ∧ x = .ref p ∧ y = .tup ys ∧ RVs K Hk ys vs)
abbrev MI := Env → Res (List MV × Env)
def okI (c : Ct) (F Hk : Hp) (bp : List (Nat × Addr)) (σ : St) (R : It → Hp → Prop) : Res (List MV × Env) → Prop
  | .ok (xs, ρ') => ∀ Hk' H' J, Ex Hk Hk' → RS c.K F Hk' H' bp σ ρ' → Walks c.K Hk' J xs → R J H'
  | .exc e ρ' => Wish c F Hk bp σ e ρ'
  | .stuck => False
theorem okI.mono {c : Ct} {F Hk Hk' : Hp} {bp : List (Nat × Addr)} {σ : St} {Q : It → Hp → Prop} {r : Res (List MV × Env)} (x : Ex Hk Hk') (h : okI c F Hk bp σ Q r) : okI c F Hk' bp σ Q r := by
  cases r with
  | ok a => exact fun Hk2 H2 v x2 => h Hk2 H2 v (x.trans x2)
  | exc e ρ => exact Wish.mono x h
  | stuck => exact h
theorem postI {c : Ct} {F : Hp} {bp : List (Nat × Addr)} {σ : St} {R : It → Hp → Prop} : Post c F bp σ fun Hk r => okI c F Hk bp σ R r := ⟨fun _ _ _ h => h, fun _ h => h, fun _ _ _ x h => okI.mono x h⟩
def rdI (c : Ct) (m : MI) : TI := fun σ H R => ∃ F Hk bp ρ, At c F Hk H bp σ ρ ∧ okI c F Hk bp σ R (m ρ)
theorem PIw {X : Cx} {tg e : Expr} {t t' : TI} (h : PI X tg e t) (w : ∀ σ H R, t' σ H R → t σ H R) : PI X tg e t' := ⟨fun pins s σ H R I q => h.run pins s σ H R I (w σ H R q)⟩
theorem walks_l {K : PySem.W.Frag} {Hk : Hp} {a : Addr} {xs : List MV} {vs : List V} (h : SqL K Hk a vs) (r : RVs K Hk xs vs) : Walks K Hk (Itl K a) xs := by
  refine ⟨fun i H e hi => ?_, fun H e => ⟨vs, ex_l e h, by rw [r.length]; exact Nat.le_refl _⟩, fun i H x H' e hi y => ?_⟩
  · obtain ⟨v, hv, _⟩ := r.get (i := i) (x := xs[i]) (by simp [hi])
    exact ⟨vs, v, ex_l e h, hv⟩
  · obtain ⟨v, hv, rv⟩ := r.get (i := i) (x := xs[i]) (by simp [hi])
    obtain ⟨e1, y⟩ := y
    have := y vs (ex_l e h)
    rw [hv] at this
    cases this
    exact ⟨xs[i], by simp [hi], .inl ⟨e1, rv⟩⟩
theorem walks_t {K : PySem.W.Frag} {Hk : Hp} {a : Addr} {xs : List MV} {vs : List V} (h : SqT K Hk a vs) (r : RVs K Hk xs vs) : Walks K Hk (Itt K a) xs := by
  refine ⟨fun i H e hi => ?_, fun H e => ⟨vs, ex_t e h, by rw [r.length]; exact Nat.le_refl _⟩, fun i H x H' e hi y => ?_⟩
  · obtain ⟨v, hv, _⟩ := r.get (i := i) (x := xs[i]) (by simp [hi])
    exact ⟨vs, v, ex_t e h, hv⟩
  · obtain ⟨v, hv, rv⟩ := r.get (i := i) (x := xs[i]) (by simp [hi])
    obtain ⟨e1, y⟩ := y
    have := y vs (ex_t e h)
    rw [hv] at this
    cases this
    exact ⟨xs[i], by simp [hi], .inl ⟨e1, rv⟩⟩
def rngM (lo c : Int) (n : Nat) : List MV := (List.range n).map fun i => .int (lo + (i : Nat) * c)
theorem rngM_get {lo c : Int} {n i : Nat} (h : i < n) : (rngM lo c n)[i]? = some (.int (lo + (i : Nat) * c)) := by
  unfold rngM
  rw [List.getElem?_map, List.getElem?_range h]; rfl
theorem rngM_len {lo c : Int} {n : Nat} : (rngM lo c n).length = n := by simp [rngM]
theorem walks_r {K : PySem.W.Frag} {Hk : Hp} {lo : Int} {n : Nat} : Walks K Hk (Itr lo n) (rngM lo 1 n) := by
  refine ⟨fun i H e hi => by rw [rngM_len] at hi; exact hi, fun H e => by rw [rngM_len]; exact Nat.le_refl n, fun i H x H' e hi y => ?_⟩
  rw [rngM_len] at hi
  obtain ⟨e1, e2⟩ := y
  exact ⟨_, rngM_get hi, .inl ⟨e1, by rw [e2, Int.mul_one]; exact RV.int.mpr rfl⟩⟩
theorem walks_rc {K : PySem.W.Frag} {Hk : Hp} {lo c : Int} {n : Nat} : Walks K Hk (Itc lo c n) (rngM lo c n) := by
  refine ⟨fun i H e hi => by rw [rngM_len] at hi; exact hi, fun H e => by rw [rngM_len]; exact Nat.le_refl n, fun i H x H' e hi y => ?_⟩
  rw [rngM_len] at hi
  obtain ⟨e1, e2⟩ := y
  exact ⟨_, rngM_get hi, .inl ⟨e1, by rw [e2]; exact RV.int.mpr rfl⟩⟩
def signsM (z : Str) : List MV := z.cps.toList.map fun c => .str ⟨#[c]⟩
theorem walks_s {K : PySem.W.Frag} {Hk : Hp} {z : Str} : Walks K Hk (Its z) (signsM z) := by
  have l : (signsM z).length = z.cps.size := by simp [signsM]
  refine ⟨fun i H e hi => by rw [l] at hi; exact hi, fun H e => by rw [l]; exact Nat.le_refl _, fun i H x H' e hi y => ?_⟩
  obtain ⟨e1, ch, e2, e3⟩ := y
  refine ⟨.str ⟨#[ch]⟩, ?_, .inl ⟨e1, by rw [e3]; exact RV.str.mpr rfl⟩⟩
  unfold signsM
  rw [List.getElem?_map, Array.getElem?_toList, e2]; rfl
def zipM (xs ys : List MV) : List MV := List.zipWith (fun x y => .tup [x, y]) xs ys
theorem zipM_get {xs ys : List MV} {i : Nat} {x y : MV} (h1 : xs[i]? = some x) (h2 : ys[i]? = some y) : (zipM xs ys)[i]? = some (.tup [x, y]) := by
  unfold zipM
  rw [List.getElem?_zipWith, h1, h2]
theorem zipM_len {xs ys : List MV} : (zipM xs ys).length = min xs.length ys.length := by simp [zipM]
theorem rvs2 {K : PySem.W.Frag} {H : Hp} {x y : MV} {v w : V} (h : RV K H x v) (g : RV K H y w) : RVs K H [x, y] [v, w] := RVs.cons.mpr ⟨v, _, rfl, h, RVs.cons.mpr ⟨w, _, rfl, g, RVs.nil.mpr rfl⟩⟩
def ZVal (K : PySem.W.Frag) (Hk : Hp) (S : Hp → List V → Prop) (xs : List MV) : Prop := ∃ vs, (∀ H, Ex Hk H → S H vs) ∧ RVs K Hk xs vs
theorem walks_zg {K : PySem.W.Frag} {Hk : Hp} {S1 S2 : Hp → List V → Prop} {xs ys : List MV} (h1 : ZVal K Hk S1 xs) (h2 : ZVal K Hk S2 ys) : Walks K Hk (ItzG S1 S2) (zipM xs ys) := by
  obtain ⟨vs, g1, r1⟩ := h1
  obtain ⟨ws, g2, r2⟩ := h2
  refine ⟨fun i H e hi => ?_, fun H e => ⟨vs, ws, g1 H e, g2 H e, ?_⟩, fun i H x H' e hi y => ?_⟩
  · rw [zipM_len] at hi
    obtain ⟨v, hv, _⟩ := r1.get (i := i) (x := xs[i]) (by first | (simp; done) | (simp; omega))
    obtain ⟨u, hu, _⟩ := r2.get (i := i) (x := ys[i]) (by first | (simp; done) | (simp; omega))
    exact ⟨vs, ws, v, u, g1 H e, g2 H e, hv, hu⟩
  · rw [zipM_len, r1.length, r2.length]; omega
  · rw [zipM_len] at hi
    obtain ⟨v, hv, rv⟩ := r1.get (i := i) (x := xs[i]) (by first | (simp; done) | (simp; omega))
    obtain ⟨u, hu, ru⟩ := r2.get (i := i) (x := ys[i]) (by first | (simp; done) | (simp; omega))
    obtain ⟨p, x1, y1, e1, e2, e3, e4, e5⟩ := y
    have a1 := e4 vs (g1 H e)
    have a2 := e5 ws (g2 H e)
    rw [hv] at a1
    rw [hu] at a2
    cases a1
    cases a2
    exact ⟨_, zipM_get (x := xs[i]) (y := ys[i]) (by first | (simp; done) | (simp; omega)) (by first | (simp; done) | (simp; omega)), .inr ⟨p, _, _, e2, e3, e1, rfl, rvs2 rv ru⟩⟩
section
variable {X : Cx} {c : Ct} {tg : Expr}
def itemsOf : MV → Option (List MV)
  | .lst xs => some xs
  | .tup xs => some xs
  | .scr ns => some (ns.map .int)
  | .str z => some (signsM z)
  | _ => none
def mItV (a : ME) : MI := fun ρ => (a ρ).bind fun x ρ1 => match itemsOf x with | some xs => .ok (xs, ρ1) | none => .stuck
theorem mi_val {e : Expr} {a : ME} (h : PE X e (rdE c a)) (hK : c.K = X.K := by rfl) : PI X tg e (rdI c (mItV a)) := by
  refine ⟨fun pins s σ H R I q => ?_⟩
  obtain ⟨F, Hk, bp, ρ, S, q⟩ := q
  cases ea : a ρ with
  | stuck => unfold mItV at q; rw [ea] at q; exact q.elim
  | exc x ρ1 =>
    have z : rdE c a σ H fun _ _ => False := ⟨F, Hk, bp, ρ, S, by
      unfold mItV at q; rw [ea] at q ⊢; exact q⟩
    exact (pi_str h).run pins s σ H R I (rdw z fun _ _ f => f.elim)
  | ok p =>
    obtain ⟨x, ρ1⟩ := p
    have q' : okI c F Hk bp σ R (match itemsOf x with | some xs => .ok (xs, ρ1) | none => .stuck) := by unfold mItV at q; rw [ea] at q; exact q
    have ok : ∀ Q : VK, (∀ Hk' H' v, Ex Hk Hk' → RS c.K F Hk' H' bp σ ρ1 → RV c.K Hk' x v → Q v H') → rdE c a σ H Q := fun Q k => ⟨F, Hk, bp, ρ, S, by rw [ea]; exact k⟩
    cases x with
    | lst xs =>
      refine (pi_list h).run pins s σ H R I (ok _ fun Hk1 H1 v x1 S1 r1 => ?_)
      obtain ⟨p, vs, rfl, h1, s1⟩ := RV.lst.mp r1
      refine ⟨p, rfl, ⟨vs, SqL.of (S1.ex _ _ h1)⟩, ?_⟩
      rw [← hK]
      exact q' Hk1 H1 _ x1 S1 (walks_l (SqL.of h1) s1)
    | tup xs =>
      refine (pi_tup h).run pins s σ H R I (ok _ fun Hk1 H1 v x1 S1 r1 => ?_)
      obtain ⟨p, vs, rfl, h1, s1⟩ := RV.tup.mp r1
      refine ⟨p, rfl, ⟨vs, by rw [← hK]; exact ex_t S1.ex h1⟩, ?_⟩
      rw [← hK]
      exact q' Hk1 H1 _ x1 S1 (walks_t h1 s1)
    | scr ns =>
      refine (pi_list h).run pins s σ H R I (ok _ fun Hk1 H1 v x1 S1 r1 => ?_)
      obtain ⟨p, rfl, h1⟩ := RV.scr.mp r1
      refine ⟨p, rfl, ⟨_, by rw [← hK]; exact ex_l S1.ex h1⟩, ?_⟩
      rw [← hK]
      exact q' Hk1 H1 _ x1 S1 (walks_l h1 (RVs.ints.mpr rfl))
    | str z =>
      refine (pi_str h).run pins s σ H R I (ok _ fun Hk1 H1 v x1 S1 r1 => ?_)
      exact ⟨z, RV.str.mp r1, q' Hk1 H1 _ x1 S1 walks_s⟩
    | _ => exact q'.elim
def inR (i : Int) : Bool := decide (-(2 ^ 62) ≤ i) && decide (i < 2 ^ 62)
theorem inR_iff {i : Int} : inR i = true ↔ -(2 ^ 62) ≤ i ∧ i < 2 ^ 62 := by unfold inR; simp
def mR1 (a : MA) : MI := fun ρ => (a ρ).bind fun xs ρ1 => match xs with
  | [.int j] => if inR j then .ok (rngM 0 1 j.toNat, ρ1) else .stuck
  | _ => .stuck
def rgOk (i j c : Int) : Bool := decide (c ≠ 0) && decide (c.natAbs < 1073741824) && Builtin.Range.small i j c && decide (Builtin.Range.rangeSize i j c = ((Builtin.Range.rangeSize i j c).toNat : Int))
def mR3 (a : MA) : MI := fun ρ => (a ρ).bind fun xs ρ1 => match xs with
  | [.int i, .int j, .int k] => if rgOk i j k then .ok (rngM i k (Builtin.Range.rangeSize i j k).toNat, ρ1) else .stuck
  | _ => .stuck
theorem rvs_int1 {K : PySem.W.Frag} {H : Hp} {i : Int} {vs : List V} (r : RVs K H [.int i] vs) : vs = [.int i] := (RVs.ints (ns := [i])).mp r
theorem rvs_int2 {K : PySem.W.Frag} {H : Hp} {i j : Int} {vs : List V} (r : RVs K H [.int i, .int j] vs) : vs = [.int i, .int j] := (RVs.ints (ns := [i, j])).mp r
theorem rvs_int3 {K : PySem.W.Frag} {H : Hp} {i j k : Int} {vs : List V} (r : RVs K H [.int i, .int j, .int k] vs) : vs = [.int i, .int j, .int k] := (RVs.ints (ns := [i, j, k])).mp r
theorem mi_r1 {a : Expr} {m : MA} {p pos : Pos} (hm : X.mg "range" = none) (ha : PA X [a] (rdA c m)) (hg : Gl X "range" := by rfl) (hs : starEach [a] X.env = [(false, eval a X.env)] := by rfl) : PI X tg (.Call (.Name "range" p) [a] [] pos) (rdI c (mR1 m)) :=
  PIw (pi_range1 hg hm ha hs) fun σ H R ⟨F, Hk, bp, ρ, S, h⟩ => rdAw (bA postI S h) fun vs H1 ⟨Hk1, xs, ρ1, x1, S1, r1, h1⟩ => by
    split at h1
    · rename_i j
      split at h1
      · rename_i hj
        have := inR_iff.mp hj
        exact ⟨j, rvs_int1 r1, this.1, this.2, h1 _ _ _ (Ex.refl _) S1.1 walks_r⟩
      · exact h1.elim
    · exact h1.elim
theorem mi_r3 {a b d : Expr} {m : MA} {p pos : Pos} (hm : X.mg "range" = none) (ha : PA X [a, b, d] (rdA c m)) (hg : Gl X "range" := by rfl)
    (hs : starEach [a, b, d] X.env = (false, eval a X.env) :: starEach [b, d] X.env := by rfl) (hpl : (backTo pos (starEach [b, d] X.env)).any (·.1) = false := by rfl) : PI X tg (.Call (.Name "range" p) [a, b, d] [] pos) (rdI c (mR3 m)) :=
  PIw (pi_range3 hg hm ha hs hpl) fun σ H R ⟨F, Hk, bp, ρ, S, h⟩ => rdAw (bA postI S h) fun vs H1 ⟨Hk1, xs, ρ1, x1, S1, r1, h1⟩ => by
    split at h1
    · rename_i i j k
      split at h1
      · rename_i hj
        unfold rgOk at hj
        simp only [Bool.and_eq_true, decide_eq_true_eq] at hj
        exact ⟨i, j, k, _, rvs_int3 r1, ⟨hj.1.1.1, hj.1.1.2, hj.1.2, hj.2⟩, h1 _ _ _ (Ex.refl _) S1.1 walks_rc⟩
      · exact h1.elim
    · exact h1.elim
def zitM : MV → Option (List MV)
  | .lst xs => some xs
  | .tup xs => some xs
  | .str z => some (signsM z)
  | _ => none
theorem rv_signs {K : PySem.W.Frag} {Hk : Hp} (z : Str) : RVs K Hk (signsM z) (signsV z) := by
  unfold signsM signsV
  generalize z.cps.toList = l
  induction l with
  | nil => exact RVs.nil.mpr rfl
  | cons c l ih => exact RVs.cons.mpr ⟨_, _, rfl, RV.str.mpr rfl, ih⟩
theorem zit_arg {K : PySem.W.Frag} {Hk H : Hp} {x : MV} {v : V} {xs : List MV} (e : Ex Hk H) (r : RV K Hk x v) (h : zitM x = some xs) : ∃ S, ZArg K H v S ∧ ZVal K Hk S xs := by
  cases x with
  | lst ys =>
    cases h
    obtain ⟨p, vs, rfl, g, s⟩ := RV.lst.mp r
    exact ⟨_, .inl ⟨p, vs, rfl, SqL.of (e _ _ g), rfl⟩, vs, fun H' e' => ex_l e' (SqL.of g), s⟩
  | tup ys =>
    cases h
    obtain ⟨p, vs, rfl, g, s⟩ := RV.tup.mp r
    exact ⟨_, .inr (.inl ⟨p, vs, rfl, ex_t e g, rfl⟩), vs, fun H' e' => ex_t e' g, s⟩
  | str z =>
    cases h
    rw [RV.str.mp r]
    exact ⟨_, .inr (.inr ⟨z, rfl, rfl⟩), signsV z, fun _ _ => rfl, rv_signs z⟩
  | _ => cases h
def mZip (a : MA) : MI := fun ρ => (a ρ).bind fun xs ρ1 => match xs with
  | [x, y] => (match zitM x, zitM y with | some xs, some ys => .ok (zipM xs ys, ρ1) | _, _ => .stuck)
  | _ => .stuck
theorem mi_zip {e e2 : Expr} {m : MA} {p pos tpos : Pos} {elts : List Expr} {kk : Nat} (hm : X.mg "zip" = none) (ha : PA X [e, e2] (rdA c m)) (hg : Gl X "zip" := by rfl) (hK : c.K = X.K := by rfl)
    (hs : starEach [e, e2] X.env = (false, eval e X.env) :: starEach [e2] X.env := by rfl) (hpl : (backTo pos (starEach [e2] X.env)).any (·.1) = false := by rfl) : PI X (.Tuple elts kk tpos) (.Call (.Name "zip" p) [e, e2] [] pos) (rdI c (mZip m)) :=
  PIw (pi_zipG hg hm ha hs hpl) fun σ H R ⟨F, Hk, bp, ρ, S, h⟩ => rdAw (bA postI S h) fun vs H1 ⟨Hk1, xs, ρ1, x1, S1, r1, h1⟩ => by
    split at h1
    · split at h1
      · rename_i z1 z2
        obtain ⟨v, r, rfl, q1, q2⟩ := RVs.cons.mp r1
        obtain ⟨w, r', rfl, q3, q4⟩ := RVs.cons.mp q2
        rw [RVs.nil.mp q4]
        obtain ⟨T1, y1, y2⟩ := zit_arg S1.1.ex q1 z1
        obtain ⟨T2, y3, y4⟩ := zit_arg S1.1.ex q3 z2
        refine ⟨v, w, T1, T2, rfl, hK ▸ y1, hK ▸ y3, ?_⟩
        exact h1 _ _ _ (Ex.refl _) S1.1 (walks_zg y2 y4)
      · exact h1.elim
    · exact h1.elim
def mLoop (g : MG) (b : MS) : List MV → Env → Res (Fl × Env)
  | [], ρ => .ok (.nx, ρ)
  | x :: xs, ρ => match g x ρ with
    | none => .stuck
    | some ρ1 => (b ρ1).bind fun f ρ2 => match f with
      | .nx => mLoop g b xs ρ2
      | .ct => mLoop g b xs ρ2
      | .br => .ok (.nx, ρ2)
      | .rt v => .ok (.rt v, ρ2)
def mFor (i : MI) (g : MG) (b : MS) : MS := fun ρ => (i ρ).bind fun xs ρ1 => mLoop g b xs ρ1
theorem okS.loop {F Hk : Hp} {bp : List (Nat × Addr)} {D : Ends} {g : MG} {b : MS} {xs : List MV} {N : St → Hp → Prop} (hN : ∀ Hk' H' σ' ρ', Ex Hk Hk' → RS c.K F Hk' H' bp σ' ρ' → okS c F Hk' bp D (mLoop g b xs ρ') → N σ' H') {r : Res (Fl × Env)}
    (h : okS c F Hk bp D (r.bind fun f ρ2 => match f with | .nx => mLoop g b xs ρ2 | .ct => mLoop g b xs ρ2 | .br => .ok (.nx, ρ2) | .rt v => .ok (.rt v, ρ2))) : okS c F Hk bp { D with nx := N, ct := N, bk := D.nx } r := by
  cases r with
  | stuck => exact h
  | exc e ρ => exact h
  | ok q =>
    obtain ⟨f, ρ1⟩ := q
    cases f with
    | nx => exact fun Hk1 H1 σ1 x1 S1 => hN Hk1 H1 σ1 ρ1 x1 S1 (okS.mono x1 h)
    | ct => exact fun Hk1 H1 σ1 x1 S1 => hN Hk1 H1 σ1 ρ1 x1 S1 (okS.mono x1 h)
    | br => exact h
    | rt x => exact h
theorem rd_for {it : MI} {g : MG} {b : MS} {D : Ends} {σ : St} {H : Hp} (h : rdS c (mFor it g b) D σ H) : tFor (rdI c it) (rdG c g) (rdS c b) D σ H := by
  obtain ⟨F, Hk, bp, ρ, S, h⟩ := h
  refine ⟨F, Hk, bp, ρ, S, ?_⟩
  have h : okS c F Hk bp D ((it ρ).bind fun xs ρ1 => mLoop g b xs ρ1) := h
  cases e : it ρ with
  | stuck => rw [e] at h; exact h
  | exc x ρ' => rw [e] at h; exact fun Hk1 H1 cls d => h Hk1 H1 σ cls d
  | ok p =>
    obtain ⟨xs, ρ1⟩ := p
    rw [e] at h
    intro Hk1 H1 J x1 S1 wk
    have h : okS c F Hk1 bp D (mLoop g b xs ρ1) := okS.mono x1 h
    refine ⟨fun i m σ' H' => m = xs.length - i ∧ i ≤ xs.length ∧ ∃ Hk' ρ', Ex Hk1 Hk' ∧ At c F Hk' H' bp σ' ρ' ∧ okS c F Hk' bp D (mLoop g b (xs.drop i) ρ'), ⟨xs.length, by simp, Nat.zero_le _, Hk1, ρ1, Ex.refl _, ⟨S1, S.2⟩, h⟩, ?_⟩
    rintro i m σ' H' ⟨rfl, hi, Hk', ρ', x', S', h'⟩
    by_cases hlt : i < xs.length
    · refine .inr ⟨wk.go i H' (x'.trans S'.1.ex) hlt, fun σ2 H2 => ∃ Hk2 ρ2, Ex Hk1 Hk2 ∧ At c F Hk2 H2 bp σ2 ρ2 ∧ okS c F Hk2 bp D (mLoop g b (xs.drop (i + 1)) ρ2), fun σ2 H2 ⟨Hk2, ρ2, x2, S2, h2⟩ => ⟨xs.length - (i + 1), by omega, rfl, hlt, Hk2, ρ2, x2, S2, h2⟩, fun x H2 y => ?_⟩
      obtain ⟨z, ez, hz⟩ := wk.yld i H' x H2 (x'.trans S'.1.ex) hlt y
      have ed : xs.drop i = z :: xs.drop (i + 1) := by
        rw [List.drop_eq_getElem_cons hlt]
        rw [List.getElem?_eq_getElem hlt] at ez
        cases ez; rfl
      rw [ed] at h'
      have fin : ∀ Hk3, Ex Hk' Hk3 → At c F Hk3 H2 bp σ' ρ' → RV c.K Hk3 z x → rdG c g x σ' H2 fun σ2 H2 => rdS c b { D with nx := fun σ2 H2 => ∃ Hk2 ρ2, Ex Hk1 Hk2 ∧ At c F Hk2 H2 bp σ2 ρ2 ∧ okS c F Hk2 bp D (mLoop g b (xs.drop (i + 1)) ρ2), ct := fun σ2 H2 => ∃ Hk2 ρ2, Ex Hk1 Hk2 ∧ At c F Hk2 H2 bp σ2 ρ2 ∧ okS c F Hk2 bp D (mLoop g b (xs.drop (i + 1)) ρ2), bk := D.nx } σ2 H2 := fun Hk3 x3 S3 r3 => by
        refine ⟨F, Hk3, bp, ρ', z, S3, r3, ?_⟩
        have h' := okS.mono x3 h'
        unfold mLoop at h'
        cases eg : g z ρ' with
        | none => rw [eg] at h'; exact h'
        | some ρ3 =>
          rw [eg] at h'
          intro Hk4 H4 σ4 x4 S4
          refine ⟨F, Hk4, bp, ρ3, ⟨S4, S.2⟩, okS.loop (fun Hk5 H5 σ5 ρ5 x5 S5 h5 => ⟨Hk5, ρ5, x'.trans (x3.trans (x4.trans x5)), ⟨S5, S.2⟩, h5⟩) (okS.mono x4 h')⟩
      rcases hz with ⟨rfl, r⟩ | ⟨p, vs, ys, hp, rfl, rfl, rfl, r⟩
      · exact fin Hk' (Ex.refl _) S' (RV.mono x' _ _ r)
      · have xn := Ex.new (o := .tup vs) (S'.1.ex.back hp)
        exact fin _ xn ⟨S'.1.new hp, S.2⟩ (RV.tup.mpr ⟨p, vs, rfl, SqT.of upd_same, r.mono (x'.trans xn)⟩)
    · have e : i = xs.length := by omega
      subst e
      rw [List.drop_length] at h'
      exact .inl ⟨wk.stop H' (x'.trans S'.1.ex), h' _ _ _ (Ex.refl _) S'.1⟩
theorem ms_for {iter : Expr} {body : List Stmt} {it : MI} {g : MG} {b : MS} {pos : Pos} (hp : PassesOwn (model X.prog X.w) X.A X.env X.xe) (hc : X.calm = true) (hi : PI X tg iter (rdI c it)) (hg : PG X tg (rdG c g)) (hb : PSs X body (rdS c b))
    (hs : ∀ x, foldedSetIterable iter X.env x = pure x := by intro _; rfl) : PS X (.For tg iter body [] pos) (rdS c (mFor it g b)) := PSw (ps_for hp hc hi hg hb hs) fun _ _ _ h => rd_for h
end
end Tm
set_option Elab.async false
set_option linter.all false
set_option maxRecDepth 100000
set_option maxHeartbeats 2000000
namespace Tm
open PySem L2
open Evl (Ex ex_rd ex_l ex_t)
theorem okXN {P : Program} {w : World} {K : PySem.W.Frag} {mg : Str → Option Value} {base : Heap} {x qual : Str} {st : Stmt} {f : Addr} {fd : FuncData} {N ps : List Str} {k : Nat} {sp : Sp} (F : Fun K x qual st f fd) (S : FnScope N ps (defScope st)) (hl : ∀ vs H Q E, sp vs H Q E → vs.length = ps.length)
    (b : ∀ (cdv : Value) (A : Around) (outer : List PySem.Env) (s : Shared) (H : Hp) (vs : List V) (Q : VK) (E : XK), Room k (A.deeper (PyProof.Rows.envOfC qual (defScope st) s.heap.objs.size f cdv)) → sp vs H Q E →
      ∃ t, PSs (cxOf (L2N.CX P w) P w K mg base N qual (defScope st) f cdv A outer s H E) (defBody st) t ∧ t { nx := fun _ H' => Q .non H', rt := Q } (L2.start N vs) H) : FnOk P w K mg base (L2N.CX P w) (k + 1) f fd ps sp := by
  obtain ⟨_, _, _, _, _, _, cv, _, _, rfl, e, hc⟩ := F.ex
  exact fn_of e hc S hl fun A outer s H vs Q E hr h => b cv A outer s H vs Q E hr h
abbrev MF := List MV → Res (MV × Env)
def endOf (bs : List Nat) (ρ : Env) : Env := bs.map fun i => (ρ[i]?).join
def mFn (n : Nat) (bs : List Nat) (m : MS) : MF := fun xs => match m (xs.map some ++ List.replicate (n - xs.length) none) with
  | .ok (.rt v, ρ) => .ok (v, endOf bs ρ)
  | .ok (.nx, ρ) => .ok (.non, endOf bs ρ)
  | .exc e ρ => .exc e (endOf bs ρ)
  | _ => .stuck
def okF (K : PySem.W.Frag) (mg : Str → Option Value) (F Hk : Hp) (bσ : St) (Q : VK) (E : XK) : Res (MV × Env) → Prop
  | .ok (v, bs) => ∀ Hk' H' w, Ex Hk Hk' → RS K F Hk' H' [] (bσ ++ [some w]) (bs ++ [some v]) → Q w H'
  | .exc e bs => ∀ Hk' H' cls d, Ex Hk Hk' → RS K F Hk' H' [] bσ bs → ExR K mg Hk' e cls d → E cls d H'
  | .stuck => False
def spF (K : PySem.W.Frag) (mg : Str → Option Value) (np : Nat) (bs : List Nat) (f : MF) : Sp := fun vs H Q E => vs.length = np ∧ ∃ F Hk bp xs, RS K F Hk H bp (vs.map some) (xs.map some) ∧ bp.map (·.1) = bs ∧ okF K mg F Hk (bp.map fun q => some (.ref q.2)) Q E (f xs)
section
variable {K : PySem.W.Frag} {F Hk H : Hp} {bp : List (Nat × Addr)} {σ : St} {ρ : Env}
theorem RS.pick (S : RS K F Hk H bp (σ ++ [some v]) (ρ ++ [some x])) (is : List Nat) (nd : is.Nodup) (hl : ∀ i ∈ is, i < ρ.length) :
    RS K F Hk H [] ((is.map fun i => (σ[i]?).join) ++ [some v]) ((is.map fun i => (ρ[i]?).join) ++ [some x]) := by
  obtain ⟨ow, s⟩ := S.ow
  have hlen : σ.length = ρ.length := by have := S.len; simpa using this
  have old : ∀ {j i : Nat}, is[j]? = some i → i < ρ.length := fun h => hl _ (List.mem_of_getElem? h)
  refine ⟨by simp, S.ex, S.fr, S.frk, ⟨fun j => match is[j]? with | some i => ow i | none => if j = is.length then ow ρ.length else [], ?_⟩, fun q hq => nomatch hq⟩
  have own : ∀ j a, a ∈ (match is[j]? with | some i => ow i | none => if j = is.length then ow ρ.length else []) → (∃ i, is[j]? = some i ∧ a ∈ ow i) ∨ (j = is.length ∧ a ∈ ow ρ.length) := fun j a h => by
    cases e : is[j]? with
    | some i => rw [e] at h; exact .inl ⟨i, rfl, h⟩
    | none =>
      rw [e] at h
      by_cases e2 : j = is.length
      · rw [if_pos e2] at h; exact .inr ⟨e2, h⟩
      · rw [if_neg e2] at h; cases h
  refine ⟨fun j y h => ?_, fun j a h => ?_, fun j h => ?_, fun j k a hjk h1 h2 => ?_⟩
  · rcases app_get h with ⟨e1, e2⟩ | ⟨lt, e2⟩
    · cases e2
      rw [List.length_map] at e1
      subst e1
      obtain ⟨u, hu, ou⟩ := s.s ρ.length x (by simp)
      have ev : u = v := by rw [← hlen] at hu; simpa using hu.symm
      subst ev
      refine ⟨u, by simp, ?_⟩
      have : is[is.length]? = none := by simp
      rw [this, if_pos rfl]
      exact ou
    · rw [List.length_map] at lt
      rw [List.getElem?_map] at e2
      cases ei : is[j]? with
      | none => rw [ei] at e2; cases e2
      | some i =>
        rw [ei] at e2
        have e3 : ρ[i]? = some (some y) := by
          cases er : ρ[i]? with
          | none => rw [Option.map_some, er] at e2; cases e2
          | some o => rw [Option.map_some, er] at e2; cases o with
            | none => cases e2
            | some z => cases e2; rfl
        have li := old ei
        obtain ⟨w, w1, w2⟩ := s.s i y (by rw [List.getElem?_append_left li]; exact e3)
        rw [List.getElem?_append_left (by rw [hlen]; exact li)] at w1
        refine ⟨w, ?_, w2⟩
        rw [List.getElem?_append_left (by simpa using lt), List.getElem?_map, ei, Option.map_some, w1]; rfl
  · rcases own j a h with ⟨i, _, m⟩ | ⟨_, m⟩
    · exact s.f i a m
    · exact s.f _ a m
  · cases e : (match is[j]? with | some i => ow i | none => if j = is.length then ow ρ.length else []) with
    | nil => exact (h e).elim
    | cons a r =>
      rcases own j a (by rw [e]; simp) with ⟨i, ei, _⟩ | ⟨e2, _⟩
      · have := lt_get ei; simp; omega
      · simp; omega
  · rcases own j a h1 with ⟨i, ei, m⟩ | ⟨e1, m⟩ <;> rcases own k a h2 with ⟨i2, ei2, m2⟩ | ⟨e2, m2⟩
    · have ne : i ≠ i2 := fun z => by
        subst z
        obtain ⟨a1, a2⟩ := List.getElem?_eq_some_iff.mp ei
        obtain ⟨b1, b2⟩ := List.getElem?_eq_some_iff.mp ei2
        exact hjk ((List.getElem_inj nd).mp (a2.trans b2.symm))
      exact s.d i i2 a ne m m2
    · exact s.d i ρ.length a (Nat.ne_of_lt (old ei)) m m2
    · exact s.d i2 ρ.length a (Nat.ne_of_lt (old ei2)) m2 m
    · exact hjk (e1.trans e2.symm)
theorem RS.pad (S : RS K F Hk H bp σ ρ) (n : Nat) : RS K F Hk H bp (σ ++ List.replicate n none) (ρ ++ List.replicate n none) := by
  obtain ⟨ow, s⟩ := S.ow
  have g : ∀ {α : Type} {l : List (Option α)} {j : Nat} {y : α}, (l ++ List.replicate n none)[j]? = some (some y) → l[j]? = some (some y) := fun {α l j y} h => by
    by_cases e : j < l.length
    · rw [List.getElem?_append_left e] at h; exact h
    · rw [List.getElem?_append_right (Nat.le_of_not_lt e), List.getElem?_replicate] at h
      split at h <;> cases h
  have g2 : ∀ {α : Type} {l : List (Option α)} {j : Nat} {y : α}, l[j]? = some (some y) → (l ++ List.replicate n none)[j]? = some (some y) := fun {α l j y} h => by
    rw [List.getElem?_append_left (lt_get h)]; exact h
  refine ⟨by simp [S.len], S.ex, S.fr, S.frk, ⟨ow, fun j y h => ?_, s.f, fun j h => ?_, s.d⟩, fun q hq => g2 (S.bor q hq)⟩
  · obtain ⟨v, e, o⟩ := s.s j y (g h)
    exact ⟨v, g2 e, o⟩
  · have := s.w j h; simp; omega
theorem RS.args {xs : List MV} {vs : List V} (ex : Ex Hk H) (fr : Ex F H) (frk : ∀ a o, F a = some o → Hk a = none) (r : RVs K Hk xs vs) : RS K F Hk H [] (vs.map some) (xs.map some) := by
  refine ⟨by simp [r.length], ex, fr, frk, ⟨fun _ => [], fun j y h => ?_, fun j a h => (nomatch h), fun j h => (h rfl).elim, fun j k a _ h => nomatch h⟩, fun q hq => nomatch hq⟩
  rw [List.getElem?_map] at h
  cases e : xs[j]? with
  | none => rw [e] at h; cases h
  | some z =>
    rw [e] at h
    cases h
    obtain ⟨v, e1, rv⟩ := r.get e
    exact ⟨v, by rw [List.getElem?_map, e1]; rfl, rv.ov⟩
end
section
variable {X : Cx} {c : Ct}
def fz : MV → Option MV
  | .own xs => some (.lst xs)
  | .obj _ _ => none
  | .dow ks xs => some (.dct ks xs)
  | .dot _ _ => none
  | .ols _ => none
  | x => some x
def mFz (m : ME) : ME := fun ρ => (m ρ).bind fun x ρ1 => match fz x with | some y => .ok (y, ρ1) | none => .stuck
section
variable {K : PySem.W.Frag} {F Hk H : Hp} {bp : List (Nat × Addr)} {σ : L2.St} {ρ : Env}
theorem RS.freezeD (S : RS K F Hk H bp σ ρ) {i : Nat} {ks : List Key} {xs : List MV} (h : ρ[i]? = some (some (.dow ks xs))) :
    ∃ p vs, σ[i]? = some (some (.ref p)) ∧ Ex Hk (upd Hk p (.dK (ks.zip vs))) ∧ RV K (upd Hk p (.dK (ks.zip vs))) (.dct ks xs) (.ref p) ∧ RS K F (upd Hk p (.dK (ks.zip vs))) H bp σ (ρ.set i (some (.dct ks xs))) := by
  obtain ⟨ow, s⟩ := S.ow
  obtain ⟨v, ev, o⟩ := s.s i _ h
  obtain ⟨p, vs, e1, e2, e3, el, e4⟩ := (show ∃ p vs, v = .ref p ∧ ow i = [p] ∧ H p = some (.dK (ks.zip vs)) ∧ ks.length = xs.length ∧ RVs K Hk xs vs from by unfold OV OF at o; exact o)
  have m : p ∈ ow i := by rw [e2]; simp
  obtain ⟨f1, f2, _⟩ := s.f i p m
  have ex : Ex Hk (upd Hk p (.dK (ks.zip vs))) := Ex.new f1
  have rv : RV K (upd Hk p (.dK (ks.zip vs))) (.dct ks xs) (.ref p) := RV.dct.mpr ⟨p, vs, rfl, upd_same, el, e4.mono ex⟩
  have li := lt_get h
  refine ⟨p, vs, by rw [ev, e1], ex, rv, by simp [S.len], S.ex.updL e3, S.fr, fun a u ha => ?_, ⟨put ow i [], ?_⟩, S.bor⟩
  · rw [upd_ne (ne_of_none ha f2)]; exact S.frk a u ha
  · refine ⟨fun j y hj => ?_, fun j a hj => ?_, fun j hj => ?_, fun j k a hjk hj => ?_⟩
    · rcases set_get hj with ⟨rfl, e⟩ | ⟨ne, e⟩
      · cases e
        exact ⟨v, ev, by rw [put_same, e1]; exact rv.ov⟩
      · obtain ⟨u, u1, u2⟩ := s.s j y e
        exact ⟨u, u1, by rw [put_ne ne]; exact u2.move ex fun _ _ _ z => z⟩
    · by_cases e : j = i
      · rw [e, put_same] at hj; cases hj
      · rw [put_ne e] at hj
        obtain ⟨g1, g2⟩ := s.f j a hj
        refine ⟨?_, g2⟩
        rw [upd_ne (fun z => s.d j i a e hj (by rw [z]; exact m))]; exact g1
    · by_cases e : j = i
      · rw [e, put_same] at hj; exact (hj rfl).elim
      · rw [put_ne e] at hj; rw [List.length_set]; exact s.w j hj
    · by_cases e : j = i
      · rw [e, put_same] at hj; cases hj
      · rw [put_ne e] at hj
        by_cases e2 : k = i
        · rw [e2, put_same]; simp
        · rw [put_ne e2]; exact s.d j k a hjk hj
end
theorem RS.last {K : PySem.W.Frag} {F Hk H : Hp} {bp : List (Nat × Addr)} {σ : St} {ρ : Env} {v : V} {x y : MV} (S : RS K F Hk H bp (σ ++ [some v]) (ρ ++ [some x])) (hb : ∀ q ∈ bp, q.1 < ρ.length) (e : fz x = some y) :
    ∃ Hk', Ex Hk Hk' ∧ RS K F Hk' H bp σ ρ ∧ RV K Hk' y v := by
  have hl : σ.length = ρ.length := by have := S.len; simpa using this
  have pl : x.per = true → y = x → ∃ Hk', Ex Hk Hk' ∧ RS K F Hk' H bp σ ρ ∧ RV K Hk' y v := fun px ey => by
    subst ey
    obtain ⟨w, ew, rw'⟩ := S.get (i := ρ.length) (x := y) (by simp) px
    rw [← hl] at ew
    have : w = v := by simpa using ew.symm
    subst this
    exact ⟨Hk, Ex.refl _, S.drop hb, rw'⟩
  cases x with
  | own xs =>
    cases e
    obtain ⟨p, vs, e1, ex, r, S'⟩ := S.freeze (i := ρ.length) (xs := xs) (by simp)
    rw [← hl] at e1
    have : v = .ref p := by simpa using e1
    subst this
    refine ⟨_, ex, ?_, r⟩
    have z : (ρ ++ [some (MV.own xs)]).set ρ.length (some (.lst xs)) = ρ ++ [some (.lst xs)] := by simp
    rw [z] at S'
    exact S'.drop hb
  | obj C fs => cases e
  | ols os => cases e
  | dow ks xs =>
    cases e
    obtain ⟨p, vs, e1, ex, r, S'⟩ := S.freezeD (i := ρ.length) (ks := ks) (xs := xs) (by simp)
    rw [← hl] at e1
    have : v = .ref p := by simpa using e1
    subst this
    refine ⟨_, ex, ?_, r⟩
    have z : (ρ ++ [some (MV.dow ks xs)]).set ρ.length (some (.dct ks xs)) = ρ ++ [some (.dct ks xs)] := by simp
    rw [z] at S'
    exact S'.drop hb
  | dot _ _ => cases e
  | _ => cases e; exact pl rfl rfl
theorem rd_fz {m : ME} {σ : St} {H : Hp} {Q : VK} (h : rdE c (mFz m) σ H Q) : rdO c m σ H Q := by
  obtain ⟨F, Hk, bp, ρ, S, h⟩ := h
  refine ⟨F, Hk, bp, ρ, S, ?_⟩
  have h : okE c F Hk bp σ Q ((m ρ).bind fun x ρ1 => match fz x with | some y => .ok (y, ρ1) | none => .stuck) := h
  cases e : m ρ with
  | stuck => rw [e] at h; exact h
  | exc x ρ' => rw [e] at h; exact h
  | ok p =>
    obtain ⟨x, ρ1⟩ := p
    rw [e] at h
    intro Hk1 H1 v x1 S1
    have h : okE c F Hk bp σ Q (match fz x with | some y => .ok (y, ρ1) | none => .stuck) := h
    have l1 : σ.length = ρ1.length := by have := S1.len; simpa using this
    cases ez : fz x with
    | none => rw [ez] at h; exact h.elim
    | some y =>
      rw [ez] at h
      obtain ⟨Hk2, x2, S2, r2⟩ := S1.last (fun q hq => by rw [← l1]; exact lt_get (S.1.bor q hq)) ez
      exact h _ _ _ (x1.trans x2) S2 r2
theorem me_fz {e : Expr} {m : ME} (h : PE X e (rdO c m)) : PE X e (rdE c (mFz m)) := PEw h fun _ _ _ q => rd_fz q
def mCall (f : MF) (a : MA) : ME := fun ρ => (a ρ).bind fun xs ρ1 => match f xs with
  | .ok (v, _) => .ok (v, ρ1)
  | .exc e _ => .exc e ρ1
  | .stuck => .stuck
theorem call_end {f : MF} {n : Nat} {F Hk H : Hp} {bp : List (Nat × Addr)} {σ : St} {ρ : Env} {xs : List MV} {vs : List V} {Q : VK} {E : XK} (S : At c F Hk H bp σ ρ) (r : RVs c.K Hk xs vs) (hn : xs.length = n)
    (hE : ∀ e, (∀ Hk' H' cls d, Ex Hk Hk' → RS c.K F Hk' H' bp σ ρ → ExR c.K c.mg Hk' e cls d → c.W cls d σ H') → ∀ Hk' H' cls d, Ex Hk Hk' → RS c.K F Hk' H' bp σ ρ → ExR c.K c.mg Hk' e cls d → E cls d H')
    (h : okO c F Hk bp σ Q (match f xs with | .ok (v, _) => .ok (v, ρ) | .exc e _ => .exc e ρ | .stuck => .stuck)) : spF c.K c.mg n [] f vs H Q E := by
  refine ⟨by rw [r.length]; exact hn, ?_⟩
  obtain ⟨ow, s⟩ := S.1.ow
  haveI : ∀ a, Decidable (∃ i, a ∈ ow i) := fun a => Classical.propDecidable _
  have fN : ∃ F' : Hp, (∀ i a, a ∈ ow i → F' a = H a) ∧ (∀ a o, F a = some o → F' a = some o) ∧ ∀ a o, F' a = some o → H a = some o ∧ Hk a = none := by
    refine ⟨fun a => if (∃ i, a ∈ ow i) then H a else F a, fun i a ha => if_pos ⟨i, ha⟩, fun a o ha => ?_, fun a o ha => ?_⟩
    · have : ¬ ∃ i, a ∈ ow i := fun ⟨i, hi⟩ => by have := (s.f i a hi).2.1; rw [ha] at this; cases this
      show (if (∃ i, a ∈ ow i) then H a else F a) = some o
      rw [if_neg this]; exact ha
    · have ha : (if (∃ i, a ∈ ow i) then H a else F a) = some o := ha
      by_cases e : ∃ i, a ∈ ow i
      · rw [if_pos e] at ha
        obtain ⟨i, hi⟩ := e
        exact ⟨ha, (s.f i a hi).1⟩
      · rw [if_neg e] at ha
        exact ⟨S.1.fr a o ha, S.1.frk a o ha⟩
  obtain ⟨F', f1, f2, f3⟩ := fN
  refine ⟨F', Hk, [], xs, RS.args S.1.ex (fun a o ha => (f3 a o ha).1) (fun a o ha => (f3 a o ha).2) r, rfl, ?_⟩
  -- what stands behind the call
  have back : ∀ {Hk' H' : Hp} {bσ : St} {bρ : Env}, Ex Hk Hk' → RS c.K F' Hk' H' [] bσ bρ → RS c.K F Hk' H' bp σ ρ ∧ SL c.K F Hk' H' ow σ ρ := fun {Hk' H' bσ bρ} x S' => by
    have own : ∀ i, ∀ a ∈ ow i, H' a = H a ∧ Hk' a = none := fun i a ha => by
      obtain ⟨g1, g2, o, g3⟩ := s.f i a ha
      have q : F' a = some o := (f1 i a ha).trans g3
      exact ⟨(S'.fr a o q).trans g3.symm, S'.frk a o q⟩
    have sl : SL c.K F Hk' H' ow σ ρ := s.step x own
    exact ⟨⟨S.1.len, S'.ex, fun a o ha => S'.fr a o (f2 a o ha), fun a o ha => S'.frk a o (f2 a o ha), ⟨ow, sl⟩, S.1.bor⟩, sl⟩
  cases ef : f xs with
  | stuck => rw [ef] at h; exact h.elim
  | exc e bs =>
    rw [ef] at h
    intro Hk' H' cls d x S' er
    exact hE e h Hk' H' cls d x (back x S').1 er
  | ok p =>
    obtain ⟨v, bs⟩ := p
    rw [ef] at h
    intro Hk' H' w x S'
    obtain ⟨R1, sl⟩ := back x S'
    refine h Hk' H' w x ?_
    obtain ⟨ow2, s2⟩ := S'.ow
    have bl : bs.length = 0 := by have := S'.len; simpa using this.symm
    have be : bs = [] := List.eq_nil_of_length_eq_zero bl
    subst be
    obtain ⟨w2, e2, o2⟩ := s2.s 0 v rfl
    cases e2
    refine ⟨by simp [S.1.len], R1.ex, R1.fr, R1.frk, ⟨_, sl.push S.1.len o2 (fun a ha => ?_) (fun i a ha hi => ?_)⟩, R1.bor_app _⟩
    · obtain ⟨g1, g2, _⟩ := s2.f 0 a ha
      refine ⟨g1, ?_⟩
      cases e : F a with
      | none => rfl
      | some o => rw [f2 a o e] at g2; cases g2
    · obtain ⟨g1, g2, o, g3⟩ := s2.f 0 a ha
      obtain ⟨_, _, o', q⟩ := s.f i a hi
      rw [f1 i a hi, q] at g2
      cases g2
theorem rd_call {f : MF} {n : Nat} {a : MA} {σ : St} {H : Hp} {Q : VK} (hn : ∀ ρ xs ρ', a ρ = .ok (xs, ρ') → xs.length = n) (h : rdO c (mCall f a) σ H Q) : tCallS (spF c.K c.mg n [] f) (WE c.W) (rdA c a) σ H Q := by
  obtain ⟨F, Hk, bp, ρ, S, h⟩ := h
  refine ⟨F, Hk, bp, ρ, S, ?_⟩
  have h : okO c F Hk bp σ Q ((a ρ).bind fun xs ρ1 => match f xs with | .ok (v, _) => .ok (v, ρ1) | .exc e _ => .exc e ρ1 | .stuck => .stuck) := h
  cases e : a ρ with
  | stuck => rw [e] at h; exact h
  | exc x ρ' => rw [e] at h; exact h
  | ok p =>
    obtain ⟨xs, ρ1⟩ := p
    rw [e] at h
    intro Hk1 H1 vs x1 S1 r1
    exact call_end ⟨S1, S.2⟩ r1 (hn _ _ _ e) (fun e q => q) (okO.mono x1 h)
def Lng (a : MA) (n : Nat) : Prop := ∀ ρ xs ρ', a ρ = .ok (xs, ρ') → xs.length = n
theorem lng_nil : Lng mNil 0 := fun ρ xs ρ' h => by cases h; rfl
theorem lng_cons {a : ME} {b : MA} {n : Nat} (h : Lng b n) : Lng (mCons a b) (n + 1) := fun ρ xs ρ' e => by
  unfold mCons at e
  cases ea : a ρ with
  | stuck => rw [ea] at e; cases e
  | exc x r => rw [ea] at e; cases e
  | ok p =>
    rw [ea] at e
    have e : (b p.2).bind (fun ys ρ2 => Res.ok (p.1 :: ys, ρ2)) = .ok (xs, ρ') := e
    cases eb : b p.2 with
    | stuck => rw [eb] at e; cases e
    | exc x r => rw [eb] at e; cases e
    | ok q =>
      rw [eb] at e
      cases e
      simp [h _ _ _ eb]
variable {k : Nat} {fa : Addr} {fd : FuncData} {ps : List Str} {x : Str} {p pos : Pos} {e : Expr} {es : List Expr} {f : MF} {a : MA} {n : Nat}
theorem mo_call (F : FnOk X.prog X.w X.K X.mg X.base (L2N.CX X.prog X.w) k fa fd ps (spF X.K X.mg n [] f)) (hr : Room k X.A) (hm : X.mg x = some (.ref fa)) (hk : PySem.W.keepIn X.K (.ref fa) = true) (hb : Binds X.K fd ps []) (tk : L2N.Takes X c.W)
    (ha : PA X (e :: es) (rdA c a)) (hn : Lng a n) (hg : Gl X x := by rfl) (hK : c.K = X.K := by rfl) (hM : c.mg = X.mg := by rfl) (hdb : (x == ("__debug__" : Str)) = false := by decide) (he : starEach (e :: es) X.env = (false, eval e X.env) :: starEach es X.env := by rfl)
    (hpl : (backTo pos (starEach es X.env)).any (·.1) = false := by rfl) : PE X (.Call (.Name x p) (e :: es) [] pos) (rdO c (mCall f a)) :=
  PEw (pe_callS (E := WE c.W) F hr hg hm hk hb (fun σ => L2N.passAt tk σ) ha hdb he hpl) fun σ H Q h => by
    have := rd_call hn h
    rw [hK, hM] at this
    exact this
def mCall0 (f : MF) (a : MA) : ME := fun ρ => (a ρ).bind fun xs ρ1 => match f xs with
  | .ok (v, _) => .ok (v, ρ1)
  | _ => .stuck
theorem rd_call0 {f : MF} {n : Nat} {a : MA} {σ : St} {H : Hp} {Q : VK} (hn : Lng a n) (h : rdO c (mCall0 f a) σ H Q) : tCall (spF c.K c.mg n [] f) [] (fun _ _ _ => False) (rdA c a) σ H Q := by
  obtain ⟨F, Hk, bp, ρ, S, h⟩ := h
  refine ⟨F, Hk, bp, ρ, S, ?_⟩
  have h : okO c F Hk bp σ Q ((a ρ).bind fun xs ρ1 => match f xs with | .ok (v, _) => .ok (v, ρ1) | _ => .stuck) := h
  cases e : a ρ with
  | stuck => rw [e] at h; exact h
  | exc x ρ' => rw [e] at h; exact h
  | ok p =>
    obtain ⟨xs, ρ1⟩ := p
    rw [e] at h
    intro Hk1 H1 vs x1 S1 r1
    rw [List.append_nil]
    have h : okO c F Hk bp σ Q (match f xs with | .ok (v, _) => .ok (v, ρ1) | _ => .stuck) := h
    cases ef : f xs with
    | stuck => rw [ef] at h; exact h.elim
    | exc e bs => rw [ef] at h; exact h.elim
    | ok q =>
      rw [ef] at h
      refine call_end (f := f) (c := ⟨c.K, c.mg, fun _ _ _ _ => False, c.bs, c.J, c.Jm⟩) ⟨S1, S.2⟩ r1 (hn _ _ _ e) (fun e q => q) ?_
      rw [ef]
      exact fun Hk2 H2 w x2 => h Hk2 H2 w (x1.trans x2)
theorem passes0 {P : Program} {w : World} {X : Cx} : Passes (L2N.CX P w) X fun _ _ _ => False := fun _ _ _ _ _ _ _ ⟨_, _, _, _, _, _, _, _, _, _, _, _, f⟩ => f.elim
theorem mo_call0 (F : FnOk X.prog X.w X.K X.mg X.base (L2N.CX X.prog X.w) k fa fd ps (spF X.K X.mg n [] f)) (hr : Room k X.A) (hm : X.mg x = some (.ref fa)) (hk : PySem.W.keepIn X.K (.ref fa) = true) (hb : Binds X.K fd ps [])
    (ha : PA X (e :: es) (rdA c a)) (hn : Lng a n) (hg : Gl X x := by rfl) (hK : c.K = X.K := by rfl) (hM : c.mg = X.mg := by rfl) (hdb : (x == ("__debug__" : Str)) = false := by decide) (he : starEach (e :: es) X.env = (false, eval e X.env) :: starEach es X.env := by rfl)
    (hpl : (backTo pos (starEach es X.env)).any (·.1) = false := by rfl) : PE X (.Call (.Name x p) (e :: es) [] pos) (rdO c (mCall0 f a)) :=
  PEw (pe_call F hr hg hm hk hb .nil passes0 ha hdb he hpl) fun σ H Q h => by
    have := rd_call0 hn h
    rw [hK, hM] at this
    exact this
end
section
variable {P : Program} {w : World} {K : PySem.W.Frag} {mg : Str → Option Value} {base : Heap}
theorem start_eq {N : List Str} {vs : List V} {xs : List MV} (h : vs.length = xs.length) : L2.start N vs = vs.map some ++ List.replicate (N.length - xs.length) none := by unfold L2.start; rw [h]
theorem fn_ok {x qual : Str} {st : Stmt} {f : Addr} {fd : FuncData} {N ps : List Str} {k : Nat} {bs : List Nat} {m : MS} (F : Fun K x qual st f fd) (S : FnScope N ps (defScope st)) (nd : bs.Nodup) (hbs : ∀ i ∈ bs, i < ps.length)
    (hbody : ∀ (cdv : Value) (A : Around) (outer : List PySem.Env) (s : Shared) (H : Hp) (E : XK), Room k (A.deeper (PyProof.Rows.envOfC qual (defScope st) s.heap.objs.size f cdv)) →
      PSs (cxOf (L2N.CX P w) P w K mg base N qual (defScope st) f cdv A outer s H E) (defBody st) (rdS ⟨K, mg, fun cls d _ H => E cls d H, bs, fun _ _ => True, fun _ _ _ _ _ => trivial⟩ m)) :
    FnOk P w K mg base (L2N.CX P w) (k + 1) f fd ps (spF K mg ps.length bs (mFn N.length bs m)) := by
  refine okXN F S (fun vs H Q E h => h.1) (fun cdv A outer s H vs Q E hr h => ⟨_, hbody cdv A outer s H E hr, ?_⟩)
  obtain ⟨hl, F', Hk, bp, xs, R, eb, h⟩ := h
  have el : vs.length = xs.length := by have := R.len; simpa using this
  rw [start_eq el]
  refine ⟨F', Hk, bp, _, ⟨R.pad _, eb, trivial⟩, ?_⟩
  have bor : ∀ {σ' : St} {Hk' H' : Hp} {ρ' : Env}, RS K F' Hk' H' bp σ' ρ' → bs.map (fun i => (σ'[i]?).join) = bp.map (fun q => some (.ref q.2)) := fun {σ' Hk' H' ρ'} S' => by
    rw [← eb, List.map_map]
    refine List.map_congr_left fun q hq => ?_
    show (σ'[q.1]?).join = _
    rw [S'.bor q hq]; rfl
  have bl : ∀ {σ' : St} {Hk' H' : Hp} {ρ' : Env}, RS K F' Hk' H' bp σ' ρ' → ∀ i ∈ bs, i < ρ'.length := fun {σ' Hk' H' ρ'} S' i hi => by
    rw [← eb] at hi
    obtain ⟨q, hq, rfl⟩ := List.mem_map.mp hi
    rw [← S'.len]; exact lt_get (S'.bor q hq)
  unfold mFn at h
  cases em : m (xs.map some ++ List.replicate (N.length - xs.length) none) with
  | stuck => rw [em] at h; exact h.elim
  | exc e ρ' =>
    rw [em] at h
    intro Hk' H' σ' cls d x S' er
    refine h Hk' H' cls d x ?_ er
    have z := ((S'.push (x := .non) (v := .non) (RV.non.mpr rfl)).pick bs nd (bl S')).drop (fun _ hq => nomatch hq)
    rw [bor S'] at z
    exact z
  | ok p =>
    obtain ⟨fl, ρ'⟩ := p
    rw [em] at h
    have ret : ∀ {Hk' H' : Hp} {σ' : St} {u : V} {v : MV}, okF K mg F' Hk (bp.map fun q => some (.ref q.2)) Q E (.ok (v, endOf bs ρ')) → Ex Hk Hk' → RS K F' Hk' H' bp (σ' ++ [some u]) (ρ' ++ [some v]) → (∀ q ∈ bp, q.1 < ρ'.length) → Q u H' := fun {Hk' H' σ' u v} h x S' hq => by
      refine h Hk' H' u x ?_
      have z := S'.pick bs nd (fun i hi => by
        rw [← eb] at hi
        obtain ⟨q, hq', rfl⟩ := List.mem_map.mp hi
        exact hq q hq')
      have l1 : σ'.length = ρ'.length := by have := S'.len; simpa using this
      have e2 : bs.map (fun i => (σ'[i]?).join) = bp.map (fun q => some (.ref q.2)) := by
        rw [← eb, List.map_map]
        refine List.map_congr_left fun q hq' => ?_
        show (σ'[q.1]?).join = _
        have := S'.bor q hq'
        rw [List.getElem?_append_left (by rw [l1]; exact hq q hq')] at this
        rw [this]; rfl
      rw [e2] at z
      exact z
    cases fl with
    | nx => exact fun Hk' H' σ' x S' => ret h x (S'.push (x := .non) (v := .non) (RV.non.mpr rfl)) (fun q hq => by rw [← S'.len]; exact lt_get (S'.bor q hq))
    | br => exact h.elim
    | ct => exact h.elim
    | rt v =>
      intro Hk' H' σ' u x lq S'
      have l1 : σ'.length = ρ'.length := by have := S'.len; simpa using this
      exact ret h x S' fun q hq => by rw [← l1]; exact lq q hq
end
end Tm
set_option Elab.async false
set_option linter.all false
set_option maxRecDepth 100000
set_option maxHeartbeats 2000000
namespace Tm
open PySem L2
open Evl (Ex ex_rd ex_l ex_t)
def CallS (K : PySem.W.Frag) (f : List MV → Option MV) (r : List V → Hp → VK → Prop) : Prop := ∀ (xs : List MV) (z : MV) (vs : List V) (Hk H : Hp) (Q : VK), f xs = some z → Ex Hk H → RVs K Hk xs vs → (∀ u, RV K Hk z u → Q u H) →
  (∀ p o, H p = none → RV K (upd Hk p o) z (.ref p) → Q (.ref p) (upd H p o)) → r vs H Q
def mBlt (f : List MV → Option MV) (a : MA) : ME := fun ρ => (a ρ).bind fun xs ρ1 => match f xs with | some z => .ok (z, ρ1) | none => .stuck
section
variable {X : Cx} {c : Ct} {x : Str} {p pos : Pos} {e : Expr} {es : List Expr} {a : MA} {id T : String} {f : List MV → Option MV} {r : List V → Hp → VK → Prop}
theorem rd_blt (o : CallS c.K f r) {σ : St} {H : Hp} {Q : VK} (h : rdE c (mBlt f a) σ H Q) : tCB r (rdA c a) σ H Q := by
  obtain ⟨F, Hk, bp, ρ, S, h⟩ := h
  refine rdAw (bA postE S h) fun vs H1 ⟨Hk1, xs, ρ1, x1, S1, r1, h1⟩ => ?_
  have h1 : okE c F Hk1 bp σ Q (match f xs with | some z => .ok (z, ρ1) | none => .stuck) := h1
  cases ef : f xs with
  | none => rw [ef] at h1; exact h1.elim
  | some z =>
    rw [ef] at h1
    exact o xs z vs Hk1 H1 Q ef S1.1.ex r1 (fun u ru => h1 _ _ u (Ex.refl _) S1.1 ru) fun p ob hp ru => h1 _ _ _ (Ex.new (S1.1.ex.back hp)) (S1.1.new hp) ru
theorem me_blt (hc : CallR X (.builtin id) r) (o : CallS c.K f r) (hm : X.mg x = none) (hv : bootBuiltins x = some (.builtin id)) (ha : PA X (e :: es) (rdA c a)) (hg : Gl X x := by rfl) (hn : x ≠ "__name__" := by decide) (hdb : (x == ("__debug__" : Str)) = false := by decide)
    (he : starEach (e :: es) X.env = (false, eval e X.env) :: starEach es X.env := by rfl) (hpl : (backTo pos (starEach es X.env)).any (·.1) = false := by rfl) : PE X (.Call (.Name x p) (e :: es) [] pos) (rdE c (mBlt f a)) :=
  PEw (pe_callB hc hg hm hv ha hn hdb he hpl) fun _ _ _ h => rd_blt o h
theorem me_ty (hc : CallR X (.type T) r) (o : CallS c.K f r) (hm : X.mg x = none) (hv : bootBuiltins x = some (.type T)) (ha : PA X (e :: es) (rdA c a)) (hg : Gl X x := by rfl) (hn : x ≠ "__name__" := by decide) (hdb : (x == ("__debug__" : Str)) = false := by decide)
    (he : starEach (e :: es) X.env = (false, eval e X.env) :: starEach es X.env := by rfl) (hpl : (backTo pos (starEach es X.env)).any (·.1) = false := by rfl) : PE X (.Call (.Name x p) (e :: es) [] pos) (rdE c (mBlt f a)) :=
  PEw (pe_callTy hc hg hm hv ha hn hdb he hpl) fun _ _ _ h => rd_blt o h
theorem me_glob {v : MV} {w : V} {u : Value} (hm : X.mg x = some u) (rv : RelV w u) (r : ∀ H, RV c.K H v w) (hg : Gl X x := by rfl) (hd : (x == ("__debug__" : Str)) = false := by decide) : PE X (.Name x pos) (rdE c (mC v)) :=
  PEw (pe_glob hg hm rv hd) fun _ _ _ h => rd_c r h
theorem me_bltn {w : V} {u : Value} (hm : X.mg x = none) (hv : bootBuiltins x = some u) (rv : RelV w u) (hg : Gl X x := by rfl) (hn : x ≠ "__name__" := by decide) (hd : (x == ("__debug__" : Str)) = false := by decide) : PE X (.Name x pos) (rdE c (mC (.raw w))) :=
  PEw (pe_bltn hg hm hv rv hn hd) fun _ _ _ h => rd_c (fun _ => RV.raw.mpr rfl) h
end
section
variable {K : PySem.W.Frag}
theorem rvs1 {H : Hp} {x : MV} {vs : List V} (r : RVs K H [x] vs) : ∃ v, vs = [v] ∧ RV K H x v := by
  obtain ⟨v, r', rfl, q1, q2⟩ := RVs.cons.mp r
  rw [RVs.nil.mp q2]
  exact ⟨v, rfl, q1⟩
theorem rvs2' {H : Hp} {x y : MV} {vs : List V} (r : RVs K H [x, y] vs) : ∃ v w, vs = [v, w] ∧ RV K H x v ∧ RV K H y w := by
  obtain ⟨v, r', rfl, q1, q2⟩ := RVs.cons.mp r
  obtain ⟨w, rfl, q3⟩ := rvs1 q2
  exact ⟨v, w, rfl, q1, q3⟩
def bLen : List MV → Option MV
  | [.lst xs] => some (.int xs.length)
  | [.tup xs] => some (.int xs.length)
  | [.scr ns] => some (.int ns.length)
  | [.str z] => if szOk z.length then some (.int z.length) else none
  | _ => none
def rLenM (K : PySem.W.Frag) : List V → Hp → VK → Prop := fun xs H Q => (∃ p ys, xs = [.ref p] ∧ (SqL K H p ys ∨ SqT K H p ys) ∧ Q (.int ys.length) H) ∨ ∃ z, xs = [.str z] ∧ z.length ≤ sizeLine ∧ Q (.int z.length) H
theorem cr_lenM {X : Cx} : CallR X (.builtin "len") (rLenM X.K) := CallR.or call_len_seq call_len_str
theorem cs_len : CallS K bLen (rLenM K) := by
  intro xs z vs Hk H Q e ex r q qn
  unfold bLen at e
  split at e
  · cases e
    obtain ⟨v, rfl, rv⟩ := rvs1 r
    obtain ⟨p1, ws, rfl, h1, s1⟩ := RV.lst.mp rv
    exact .inl ⟨p1, ws, rfl, .inl (SqL.of (ex _ _ h1)), by rw [s1.length]; exact q _ (RV.int.mpr rfl)⟩
  · cases e
    obtain ⟨v, rfl, rv⟩ := rvs1 r
    obtain ⟨p1, ws, rfl, h1, s1⟩ := RV.tup.mp rv
    exact .inl ⟨p1, ws, rfl, .inr (ex_t ex h1), by rw [s1.length]; exact q _ (RV.int.mpr rfl)⟩
  · cases e
    obtain ⟨v, rfl, rv⟩ := rvs1 r
    obtain ⟨p1, rfl, h1⟩ := RV.scr.mp rv
    exact .inl ⟨p1, _, rfl, .inl (ex_l ex h1), by rw [List.length_map]; exact q _ (RV.int.mpr rfl)⟩
  · split at e
    · rename_i hz
      cases e
      obtain ⟨v, rfl, rv⟩ := rvs1 r
      exact .inr ⟨_, by rw [RV.str.mp rv], szOk_iff.mp hz, q _ (RV.int.mpr rfl)⟩
    · cases e
  · cases e
def bAbs : List MV → Option MV
  | [.int i] => some (.int (if i < 0 then -i else i))
  | _ => none
theorem cs_abs : CallS K bAbs (fun xs H Q => ∃ i, xs = [.int i] ∧ Q (.int (if i < 0 then -i else i)) H) := by
  intro xs z vs Hk H Q e ex r q qn
  unfold bAbs at e
  split at e
  · cases e
    exact ⟨_, rvs_int1 r, q _ (RV.int.mpr rfl)⟩
  · cases e
def bMax : List MV → Option MV
  | [.int i, .int j] => some (.int (if j > i then j else i))
  | _ => none
theorem cs_max : CallS K bMax (fun xs H Q => ∃ i j, xs = [.int i, .int j] ∧ Q (.int (if j > i then j else i)) H) := by
  intro xs z vs Hk H Q e ex r q qn
  unfold bMax at e
  split at e
  · cases e
    exact ⟨_, _, rvs_int2 r, q _ (RV.int.mpr rfl)⟩
  · cases e
def bInt : List MV → Option MV
  | [.int i] => some (.int i)
  | [.bl k] => some (.int (if k then 1 else 0))
  | [.str s] => if decide (s.length ≤ 640) then (PySem.intText? s).map .int else none
  | _ => none
def rIntM : List V → Hp → VK → Prop := fun xs H Q => ((∃ i, xs = [.int i] ∧ Q (.int i) H) ∨ ∃ k, xs = [.bl k] ∧ Q (.int (if k then 1 else 0)) H) ∨ ∃ a n, xs = [.str a] ∧ PySem.intText? a = some n ∧ a.length ≤ 640 ∧ Q (.int n) H
theorem cr_intM {X : Cx} : CallR X (.type "int") rIntM := CallR.or call_int1 call_int_str
theorem cs_int : CallS K bInt rIntM := by
  intro xs z vs Hk H Q e ex r q qn
  unfold bInt at e
  split at e
  · cases e
    exact .inl (.inl ⟨_, rvs_int1 r, q _ (RV.int.mpr rfl)⟩)
  · cases e
    obtain ⟨v, rfl, rv⟩ := rvs1 r
    exact .inl (.inr ⟨_, by rw [RV.bl.mp rv], q _ (RV.int.mpr rfl)⟩)
  · split at e
    · rename_i s hs
      cases en : PySem.intText? s with
      | none => rw [en] at e; cases e
      | some n =>
        rw [en] at e
        cases e
        obtain ⟨v, rfl, rv⟩ := rvs1 r
        exact .inr ⟨s, n, by rw [RV.str.mp rv], en, of_decide_eq_true hs, q _ (RV.int.mpr rfl)⟩
    · cases e
  · cases e
def bTuple : List MV → Option MV
  | [.lst xs] => some (.tup xs)
  | [.tup xs] => some (.tup xs)
  | _ => none
theorem cs_tuple : CallS K bTuple (fun xs H Q => ∃ p ys, xs = [.ref p] ∧ ((SqL K H p ys ∧ ∀ l, H l = none → Q (.ref l) (upd H l (.tup ys))) ∨ (SqT K H p ys ∧ Q (.ref p) H))) := by
  intro xs z vs Hk H Q e ex r q qn
  unfold bTuple at e
  split at e
  · cases e
    obtain ⟨v, rfl, rv⟩ := rvs1 r
    obtain ⟨p1, ws, rfl, h1, s1⟩ := RV.lst.mp rv
    exact ⟨p1, ws, rfl, .inl ⟨SqL.of (ex _ _ h1), fun l hl => qn l _ hl (RV.tup.mpr ⟨l, ws, rfl, SqT.of upd_same, s1.mono (Ex.new (ex.back hl))⟩)⟩⟩
  · cases e
    obtain ⟨v, rfl, rv⟩ := rvs1 r
    obtain ⟨p1, ws, e1, h1, s1⟩ := RV.tup.mp rv
    subst e1
    exact ⟨p1, ws, rfl, .inr ⟨ex_t ex h1, q _ rv⟩⟩
  · cases e
def bList : List MV → Option MV
  | [.lst xs] => some (.lst xs)
  | [.tup xs] => some (.lst xs)
  | [.scr ns] => some (.lst (ns.map .int))
  | _ => none
def rListM (K : PySem.W.Frag) : List V → Hp → VK → Prop := fun xs H Q => ∃ p ys, xs = [.ref p] ∧ (SqL K H p ys ∨ SqT K H p ys) ∧ ∀ l, H l = none → Q (.ref l) (upd H l (.lst ys))
theorem list_src {Hk H : Hp} {xs : List MV} {ys : List MV} {vs : List V} (e : bList xs = some (.lst ys)) (ex : Ex Hk H) (r : RVs K Hk xs vs) : ∃ p ws, vs = [.ref p] ∧ (SqL K H p ws ∨ SqT K H p ws) ∧ RVs K Hk ys ws := by
  unfold bList at e
  split at e
  · cases e
    obtain ⟨v, rfl, rv⟩ := rvs1 r
    obtain ⟨p1, ws, rfl, h1, s1⟩ := RV.lst.mp rv
    exact ⟨p1, ws, rfl, .inl (SqL.of (ex _ _ h1)), s1⟩
  · cases e
    obtain ⟨v, rfl, rv⟩ := rvs1 r
    obtain ⟨p1, ws, rfl, h1, s1⟩ := RV.tup.mp rv
    exact ⟨p1, ws, rfl, .inr (ex_t ex h1), s1⟩
  · cases e
    obtain ⟨v, rfl, rv⟩ := rvs1 r
    obtain ⟨p1, rfl, h1⟩ := RV.scr.mp rv
    exact ⟨p1, _, rfl, .inl (ex_l ex h1), RVs.ints.mpr rfl⟩
  · cases e
theorem bList_lst {xs : List MV} {z : MV} (e : bList xs = some z) : ∃ ys, z = .lst ys := by
  unfold bList at e
  split at e <;> first | (cases e; exact ⟨_, rfl⟩) | cases e
theorem cs_list : CallS K bList (rListM K) := by
  intro xs z vs Hk H Q e ex r q qn
  obtain ⟨ys, rfl⟩ := bList_lst e
  obtain ⟨p, ws, rfl, h, s⟩ := list_src e ex r
  exact ⟨p, ws, rfl, h, fun l hl => qn l _ hl (RV.lst.mpr ⟨l, ws, rfl, upd_same, s.mono (Ex.new (ex.back hl))⟩)⟩
def blsOf : List MV → Option (List Bool)
  | [] => some []
  | .bl b :: r => (blsOf r).map (b :: ·)
  | _ => none
theorem bls_rv {H : Hp} : ∀ {xs : List MV} {bs : List Bool} {vs : List V}, blsOf xs = some bs → RVs K H xs vs → vs = bs.map V.bl
  | [], bs, vs, e, r => by cases e; rw [RVs.nil.mp r]; rfl
  | .bl b :: r', bs, vs, e, r => by
    unfold blsOf at e
    cases h : blsOf r' with
    | none => rw [h] at e; cases e
    | some cs =>
      rw [h] at e
      cases e
      obtain ⟨v, us, rfl, q1, q2⟩ := RVs.cons.mp r
      rw [RV.bl.mp q1, bls_rv h q2]; rfl
  | .non :: _, _, _, e, _ => by cases e
  | .int _ :: _, _, _, e, _ => by cases e
  | .str _ :: _, _, _, e, _ => by cases e
  | .tup _ :: _, _, _, e, _ => by cases e
  | .lst _ :: _, _, _, e, _ => by cases e
  | .own _ :: _, _, _, e, _ => by cases e
  | .raw _ :: _, _, _, e, _ => by cases e
  | .scr _ :: _, _, _, e, _ => by cases e
  | .fnc _ :: _, _, _, e, _ => by cases e
  | .obj _ _ :: _, _, _, e, _ => by cases e
  | .dct _ _ :: _, _, _, e, _ => by cases e
  | .dow _ _ :: _, _, _, e, _ => by cases e
  | .dot _ _ :: _, _, _, e, _ => by cases e
def bAll : List MV → Option MV
  | [.lst xs] => (blsOf xs).map fun bs => .bl (bs.all id)
  | _ => none
theorem cs_all : CallS K bAll (rAll K) := by
  intro xs z vs Hk H Q e ex r q qn
  unfold bAll at e
  split at e
  · rename_i ys
    cases h : blsOf ys with
    | none => rw [h] at e; cases e
    | some bs =>
      rw [h] at e
      cases e
      obtain ⟨v, rfl, rv⟩ := rvs1 r
      obtain ⟨p1, ws, rfl, h1, s1⟩ := RV.lst.mp rv
      have ew := bls_rv h s1
      subst ew
      exact ⟨p1, bs, rfl, SqL.of (ex _ _ h1), q _ (RV.bl.mpr rfl)⟩
  · cases e
inductive Kd where
  | non | bl | int | str | tup | lst
  deriving DecidableEq
def Kd.name : Kd → String
  | .non => "NoneType" | .bl => "bool" | .int => "int" | .str => "str" | .tup => "tuple" | .lst => "list"
def MV.kd : MV → Option Kd
  | .non => some .non | .bl _ => some .bl | .int _ => some .int | .str _ => some .str | .tup _ => some .tup | .lst _ => some .lst
  | _ => none
def kdOf : String → Option Kd
  | "bool" => some .bl | "int" => some .int | "str" => some .str | "tuple" => some .tup | "list" => some .lst
  | _ => none
def Kd.isa (a b : Kd) : Bool := decide (a = b) || (decide (a = .bl) && decide (b = .int))
theorem kit_kd (a b : Kd) (h : b ≠ .non) : kitB a.name b.name = some (a.isa b) := by
  cases a <;> cases b <;> first | exact (h rfl).elim | decide +kernel
def bIsi : List MV → Option MV
  | [x, .raw (.ty T)] => match x.kd, kdOf T with
    | some a, some b => some (.bl (a.isa b))
    | _, _ => none
  | _ => none
theorem kdOf_name {T : String} {b : Kd} (h : kdOf T = some b) : T = b.name ∧ b ≠ .non := by
  unfold kdOf at h
  split at h <;> first | (cases h; exact ⟨rfl, by decide⟩) | cases h
theorem ty_of {Hk H : Hp} {x : MV} {v : V} {a : Kd} (ex : Ex Hk H) (r : RV K Hk x v) (h : x.kd = some a) : TyX K H v (.type a.name) := by
  cases x with
  | non => cases h; rw [RV.non.mp r]; exact .base .non
  | bl b => cases h; rw [RV.bl.mp r]; exact .base (.bl b)
  | int b => cases h; rw [RV.int.mp r]; exact .base (.int b)
  | str b => cases h; rw [RV.str.mp r]; exact .base (.str b)
  | tup xs =>
    cases h
    obtain ⟨p, vs, rfl, h1, _⟩ := RV.tup.mp r
    rcases ex_t ex h1 with (h1 | ⟨o, h1⟩) | ⟨o, its, n, h1, h2, _⟩
    · exact .base (.tup h1)
    · exact .fTuple h1
    · exact .kTuple h1 h2
  | lst xs =>
    cases h
    obtain ⟨p, vs, rfl, h1, _⟩ := RV.lst.mp r
    exact .base (.lst (ex _ _ h1))
  | _ => cases h
theorem cs_isi : CallS K bIsi (rIsi K) := by
  intro xs z vs Hk H Q e ex r q qn
  unfold bIsi at e
  split at e
  · rename_i x T
    split at e
    · rename_i a b e1 e2
      cases e
      obtain ⟨v, w, rfl, r1, r2⟩ := rvs2' r
      obtain ⟨et, nb⟩ := kdOf_name e2
      refine ⟨v, w, _, .type T, _, rfl, ?_, ty_of ex r1 e1, ?_, q _ (RV.bl.mpr rfl)⟩
      · rw [RV.raw.mp r2]; exact .ty T
      · subst et; exact kit_ty (kit_kd a b nb)
    · cases e
  · cases e
end
section
variable {X : Cx} {c : Ct} {p pos : Pos} {e e2 : Expr} {es : List Expr} {a : MA}
theorem mb_len (hm : X.mg "len" = none) (ha : PA X [e] (rdA c a)) (hK : c.K = X.K := by rfl) (hg : Gl X "len" := by rfl) (he : starEach [e] X.env = (false, eval e X.env) :: starEach [] X.env := by rfl) (hpl : (backTo pos (starEach [] X.env)).any (·.1) = false := by rfl) : PE X (.Call (.Name "len" p) [e] [] pos) (rdE c (mBlt bLen a)) :=
  me_blt cr_lenM (by rw [← hK]; exact cs_len) hm PySem.boot_len ha hg (he := he) (hpl := hpl)
theorem mb_abs (hm : X.mg "abs" = none) (ha : PA X [e] (rdA c a)) (hg : Gl X "abs" := by rfl) (he : starEach [e] X.env = (false, eval e X.env) :: starEach [] X.env := by rfl) (hpl : (backTo pos (starEach [] X.env)).any (·.1) = false := by rfl) : PE X (.Call (.Name "abs" p) [e] [] pos) (rdE c (mBlt bAbs a)) :=
  me_blt call_abs cs_abs hm (by decide +kernel) ha hg (he := he) (hpl := hpl)
theorem mb_max (hc : X.calm = true) (hm : X.mg "max" = none) (ha : PA X [e, e2] (rdA c a)) (hg : Gl X "max" := by rfl) (he : starEach [e, e2] X.env = (false, eval e X.env) :: starEach [e2] X.env := by rfl) (hpl : (backTo pos (starEach [e2] X.env)).any (·.1) = false := by rfl) : PE X (.Call (.Name "max" p) [e, e2] [] pos) (rdE c (mBlt bMax a)) :=
  me_blt (call_max2 hc) cs_max hm (by decide +kernel) ha hg (he := he) (hpl := hpl)
theorem mb_int (hm : X.mg "int" = none) (ha : PA X [e] (rdA c a)) (hg : Gl X "int" := by rfl) (he : starEach [e] X.env = (false, eval e X.env) :: starEach [] X.env := by rfl) (hpl : (backTo pos (starEach [] X.env)).any (·.1) = false := by rfl) : PE X (.Call (.Name "int" p) [e] [] pos) (rdE c (mBlt bInt a)) :=
  me_ty cr_intM cs_int hm (by decide +kernel) ha hg (he := he) (hpl := hpl)
theorem mb_tuple (hm : X.mg "tuple" = none) (ha : PA X [e] (rdA c a)) (hK : c.K = X.K := by rfl) (hg : Gl X "tuple" := by rfl) (he : starEach [e] X.env = (false, eval e X.env) :: starEach [] X.env := by rfl) (hpl : (backTo pos (starEach [] X.env)).any (·.1) = false := by rfl) : PE X (.Call (.Name "tuple" p) [e] [] pos) (rdE c (mBlt bTuple a)) :=
  me_ty call_tuple_of (by rw [← hK]; exact cs_tuple) hm (by decide +kernel) ha hg (he := he) (hpl := hpl)
theorem mb_list (hm : X.mg "list" = none) (ha : PA X [e] (rdA c a)) (hK : c.K = X.K := by rfl) (hg : Gl X "list" := by rfl) (he : starEach [e] X.env = (false, eval e X.env) :: starEach [] X.env := by rfl) (hpl : (backTo pos (starEach [] X.env)).any (·.1) = false := by rfl) : PE X (.Call (.Name "list" p) [e] [] pos) (rdE c (mBlt bList a)) :=
  me_ty (r := rListM X.K) call_list_of (by rw [← hK]; exact cs_list) hm (by decide +kernel) ha hg (he := he) (hpl := hpl)
def mListO (a : MA) : ME := fun ρ => (a ρ).bind fun xs ρ1 => match bList xs with | some (.lst ys) => .ok (.own ys, ρ1) | _ => .stuck
theorem mbo_list (hm : X.mg "list" = none) (ha : PA X [e] (rdA c a)) (hK : c.K = X.K := by rfl) (hg : Gl X "list" := by rfl) (he : starEach [e] X.env = (false, eval e X.env) :: starEach [] X.env := by rfl) (hpl : (backTo pos (starEach [] X.env)).any (·.1) = false := by rfl) : PE X (.Call (.Name "list" p) [e] [] pos) (rdO c (mListO a)) :=
  PEw (pe_callTy (r := rListM X.K) call_list_of hg hm (by decide +kernel) ha (he := he) (hpl := hpl)) fun σ H Q h => by
    obtain ⟨F, Hk, bp, ρ, S, h⟩ := h
    refine rdAw (bA postO S h) fun vs H1 ⟨Hk1, xs, ρ1, x1, S1, r1, h1⟩ => ?_
    split at h1
    · rename_i ys ey
      obtain ⟨q, ws, rfl, g, s⟩ := list_src ey S1.1.ex r1
      exact ⟨q, ws, rfl, by rw [← hK]; exact g, fun l hl => h1 _ _ _ (Ex.refl _) (S1.1.pushOwn hl s)⟩
    · exact h1.elim
theorem mb_all (hc : X.calm = true) (hm : X.mg "all" = none) (ha : PA X [e] (rdA c a)) (hK : c.K = X.K := by rfl) (hg : Gl X "all" := by rfl) (he : starEach [e] X.env = (false, eval e X.env) :: starEach [] X.env := by rfl) (hpl : (backTo pos (starEach [] X.env)).any (·.1) = false := by rfl) : PE X (.Call (.Name "all" p) [e] [] pos) (rdE c (mBlt bAll a)) :=
  me_blt (cr_all hc) (by rw [← hK]; exact cs_all) hm (by decide +kernel) ha hg (he := he) (hpl := hpl)
theorem mb_isi (hm : X.mg "isinstance" = none) (ha : PA X [e, e2] (rdA c a)) (hK : c.K = X.K := by rfl) (hg : Gl X "isinstance" := by rfl) (he : starEach [e, e2] X.env = (false, eval e X.env) :: starEach [e2] X.env := by rfl) (hpl : (backTo pos (starEach [e2] X.env)).any (·.1) = false := by rfl) : PE X (.Call (.Name "isinstance" p) [e, e2] [] pos) (rdE c (mBlt bIsi a)) :=
  me_blt call_isi (by rw [← hK]; exact cs_isi) hm (by decide +kernel) ha hg (he := he) (hpl := hpl)
end
end Tm
set_option Elab.async false
set_option linter.all false
set_option maxRecDepth 100000
set_option maxHeartbeats 2000000
namespace Tm
open PySem L2
open Evl (Ex ex_rd ex_l ex_t)
section
variable {X : Cx} {c : Ct} {p pos apos cpos : Pos} {e e2 : Expr} {es : List Expr} {a b : ME} {m : MA} {x : Str} {i : Nat}
def isOwn (ρ : Env) (i : Nat) : Bool := match ρ[i]? with | some (some (.own _)) => true | _ => false
theorem own_rs {F Hk H : Hp} {bp : List (Nat × Addr)} {σ : St} {ρ : Env} {i : Nat} (S : At c F Hk H bp σ ρ) (h : isOwn ρ i = true) : ∃ q vs, σ[i]? = some (some (.ref q)) ∧ H q = some (.lst vs) := by
  unfold isOwn at h
  split at h
  · rename_i xs e
    obtain ⟨q, vs, e1, e2, _⟩ := S.1.getOwn e
    exact ⟨q, vs, e1, e2⟩
  · cases h
theorem change_rs {F Hk H : Hp} {bp : List (Nat × Addr)} {σ : St} {ρ : Env} {i : Nat} {xs ys : List MV} {q : Addr} (S : At c F Hk H bp σ ρ) (h : ρ[i]? = some (some (.own xs))) (eq : σ[i]? = some (some (.ref q))) :
    ∃ vs, H q = some (.lst vs) ∧ RVs c.K Hk xs vs ∧ ∀ ws, RVs c.K Hk ys ws → RS c.K F Hk (upd H q (.lst ws)) bp σ (ρ.set i (some (.own ys))) := by
  obtain ⟨p, vs, e1, e2, e3, e4⟩ := S.1.change (ys := ys) h
  rw [eq] at e1
  cases e1
  exact ⟨vs, e2, e3, e4⟩
def mLm (f : List MV → List MV → Option (List MV × MV)) (i : Nat) (a : MA) : ME := fun ρ => if isOwn ρ i then (a ρ).bind fun ys ρ1 => match ρ1[i]? with
  | some (some (.own xs)) => (match f xs ys with | some (zs, z) => .ok (z, ρ1.set i (some (.own zs))) | none => .stuck)
  | _ => .stuck else .stuck
def LmS (K : PySem.W.Frag) (f : List MV → List MV → Option (List MV × MV)) (r : V → List V → Hp → VK → Prop) : Prop := ∀ (xs ys zs : List MV) (z : MV) (q : Addr) (vs us : List V) (Hk H : Hp) (Q : VK), f xs ys = some (zs, z) → Ex Hk H → H q = some (.lst vs) → RVs K Hk xs vs → RVs K Hk ys us →
  (∀ ws u, RVs K Hk zs ws → RV K Hk z u → Q u (upd H q (.lst ws))) → r (.ref q) us H Q
theorem rd_lm {f : List MV → List MV → Option (List MV × MV)} {r : V → List V → Hp → VK → Prop} (o : LmS c.K f r) {σ : St} {H : Hp} {Q : VK} (h : rdE c (mLm f i m) σ H Q) : tBM c.K "list" r (tVar i) (rdA c m) σ H Q := by
  obtain ⟨F, Hk, bp, ρ, S, h⟩ := h
  unfold mLm at h
  split at h
  · rename_i ho
    obtain ⟨q, vs0, eq, hq⟩ := own_rs S ho
    refine ⟨_, eq, .inl ⟨rfl, _, SqL.of hq⟩, ?_⟩
    refine rdAw (bA postE S h) fun us H1 ⟨Hk1, ys, ρ1, x1, S1, r1, h1⟩ => ?_
    split at h1
    · rename_i xs ex
      split at h1
      · rename_i zs z ef
        obtain ⟨vs, g1, g2, g3⟩ := change_rs (ys := zs) S1 ex eq
        exact o xs ys zs z q vs us Hk1 H1 Q ef S1.1.ex g1 g2 r1 fun ws u r2 r3 => h1 _ _ u (Ex.refl _) (g3 ws r2) r3
      · exact h1.elim
    · exact h1.elim
  · exact h.elim
def lmAppend : List MV → List MV → Option (List MV × MV)
  | xs, [y] => if decide (xs.length < sizeLine) then some (xs ++ [y], .non) else none
  | _, _ => none
theorem ls_append {K : PySem.W.Frag} : LmS K lmAppend rAppend := by
  intro xs ys zs z q vs us Hk H Q e ex hq r1 r2 k
  unfold lmAppend at e
  split at e
  · split at e
    · rename_i h
      cases e
      obtain ⟨v, rfl, rv⟩ := rvs1 r2
      refine ⟨q, vs, v, rfl, rfl, hq, by rw [r1.length]; exact of_decide_eq_true h, k _ _ (r1.append ?_) (RV.non.mpr rfl)⟩
      exact RVs.cons.mpr ⟨v, [], rfl, rv, RVs.nil.mpr rfl⟩
    · cases e
  · cases e
def lmExtend : List MV → List MV → Option (List MV × MV)
  | xs, [.lst ys] => if szOk (xs.length + ys.length) then some (xs ++ ys, .non) else none
  | _, _ => none
theorem ls_extend {K : PySem.W.Frag} : LmS K lmExtend rExtend := by
  intro xs ys zs z q vs us Hk H Q e ex hq r1 r2 k
  unfold lmExtend at e
  split at e
  · split at e
    · rename_i h
      cases e
      obtain ⟨v, rfl, rv⟩ := rvs1 r2
      obtain ⟨p1, ws, rfl, h1, s1⟩ := RV.lst.mp rv
      exact ⟨q, p1, vs, ws, rfl, rfl, hq, ex _ _ h1, by rw [r1.length, s1.length]; exact szOk_iff.mp h, k _ _ (r1.append s1) (RV.non.mpr rfl)⟩
    · cases e
  · cases e
theorem me_lm1 {f : List MV → List MV → Option (List MV × MV)} {r : V → List V → Hp → VK → Prop} {id : String} {name : Str} (o : LmS c.K f r) (slot : Slot "list" name id) (hty : typeOf (.builtin id) = pure (.type "method_descriptor")) (hm : MtR X id r) (hN : X.N[i]? = some x) (hv : Vis X.env.scope x) (ha : PA X (e :: es) (rdA c m)) (hK : c.K = X.K := by rfl)
    (hbase : attributeBase (.Name x p) name X.env (eval (.Name x p) X.env) = eval (.Name x p) X.env := by rfl)
    (hfew : ((backTo cpos (starEach (e :: es) X.env)).all (fun x => !x.1) && (backToKw cpos (keywordEach [] X.env)).all (fun x => x.1.isSome)
      && decide ((e :: es).length + ([] : List Keyword).length + (if ([] : List Keyword).isEmpty then 0 else 1) < 30)) = true := by rfl)
    (hline : (apos.endLine == cpos.line) = true := by rfl) (hs : starEach (e :: es) X.env = (false, eval e X.env) :: starEach es X.env := by rfl) (hplain : (backTo cpos (starEach es X.env)).any (·.1) = false := by rfl)
    (hd : (x == ("__debug__" : Str)) = false := by decide) (hcd : (x == ("__classdict__" : Str)) = false := by decide) : PE X (.Call (.Attribute (.Name x p) name apos) (e :: es) [] cpos) (rdE c (mLm f i m)) :=
  PEw (pe_bm PySem.F.plainAttrs_list slot hty hm (pe_var hN hv hd hcd) ha hbase hfew hline hs hplain) fun σ H Q h => by
    have := rd_lm o h
    rw [hK] at this
    exact this
def mSetIx (i : Nat) (a b : ME) : MS := fun ρ => (a ρ).bind fun z ρ1 => if has ρ1 i then (b ρ1).bind fun y ρ2 => match ρ2[i]?, y with
  | some (some (.own xs)), .int k => (match ixN xs.length k with | some j => .ok (.nx, ρ2.set i (some (.own (xs.set j z)))) | none => .stuck)
  | _, _ => .stuck else .stuck
theorem rd_setIx {D : Ends} {σ : St} {H : Hp} (h : rdS c (mSetIx i a b) D σ H) : tAsg (rdE c a) (gSub (tVar i) (rdE c b) rSetL) D σ H := by
  obtain ⟨F, Hk, bp, ρ, S, h⟩ := h
  refine rdw (bE (postS (σ := σ)) S h) fun v H1 ⟨Hk1, z, ρ1, x1, S1, r1, h1⟩ => ?_
  split at h1
  · rename_i hh
    obtain ⟨w, ew⟩ := has_rs S1 hh
    refine ⟨w, ew, ?_⟩
    refine rdw (bE (postS (σ := σ)) S1 h1) fun y' H2 ⟨Hk2, y, ρ2, x2, S2, r2, h2⟩ => ?_
    split at h2
    · rename_i xs k hx
      split at h2
      · rename_i j ej
        obtain ⟨q, vs, e1, _⟩ := S2.1.getOwn hx
        rw [ew] at e1
        cases e1
        obtain ⟨vs, g1, g2, g3⟩ := change_rs (ys := xs.set j z) S2 hx ew
        exact ⟨q, vs, k, j, rfl, RV.int.mp r2, g1, by rw [g2.length]; exact ej, h2 _ _ _ (Ex.refl _) (g3 _ (g2.set j (RV.mono x2 _ _ r1)))⟩
      · exact h2.elim
    · exact h2.elim
  · exact h1.elim
theorem ms_setIx {ee : Expr} (hN : X.N[i]? = some x) (hv : Vis X.env.scope x) (he : PE X e (rdE c a)) (hb : PE X ee (rdE c b)) (hs : swapsWithSole [.Subscript (.Name x p) ee apos] e pos.line X.env = pure false := by rfl) (hw : swappedStores [.Subscript (.Name x p) ee apos] e X.env = pure none := by rfl)
    (h1 : (assignEach [.Subscript (.Name x p) ee apos] X.env).map (·.2) = [assign (.Subscript (.Name x p) ee apos) X.env] := by rfl)
    (ha : ∀ v, assign (.Subscript (.Name x p) ee apos) X.env v = (do
      let ov ← holding [v] (eval (.Name x p) X.env)
      let iv ← holding [v, ov] (eval ee X.env)
      standAt apos
      holding [v, ov, iv] (setItem ov iv v)
      release [v, ov, iv] []) := by intro _; rfl)
    (hd : (x == ("__debug__" : Str)) = false := by decide) (hcd : (x == ("__classdict__" : Str)) = false := by decide) : PS X (.Assign [.Subscript (.Name x p) ee apos] e pos) (rdS c (mSetIx i a b)) :=
  PSw (ps_asg he (pg_sub (pe_var hN hv hd hcd) hb set_list ha) hs hw h1) fun _ _ _ h => rd_setIx h
end
end Tm
set_option Elab.async false
set_option linter.all false
set_option maxRecDepth 100000
set_option maxHeartbeats 2000000
namespace Tm
open PySem L2
open Evl (Ex ex_rd ex_l ex_t)
inductive Tgt where
  | nm (i : Nat) | tp (is : List Nat) | tn (is : List Nat) (j : Nat)
def gsOf : List Nat → TGs
  | [] => gNil
  | i :: is => gCons (gName i) (gsOf is)
def gOf (K : PySem.W.Frag) : Tgt → TG
  | .nm i => gName i
  | .tp is => gTup K is.length (gsOf is)
  | .tn is j => gTup K 2 (gCons (gTup K is.length (gsOf is)) (gCons (gName j) gNil))
def setAll : List Nat → List MV → Env → Option Env
  | [], [], ρ => some ρ
  | i :: is, x :: xs, ρ => if i < ρ.length then setAll is xs (ρ.set i (some x)) else none
  | _, _, _ => none
def setT (t : Tgt) (x : MV) (ρ : Env) : Option Env := match t with
  | .nm i => if i < ρ.length then some (ρ.set i (some x)) else none
  | .tp is => match x with
    | .tup xs => if xs.length = is.length then setAll is xs ρ else none
    | _ => none
  | .tn is j => match x with
    | .tup [.tup xs, y] => if xs.length = is.length then (setAll is xs ρ).bind fun ρ1 => if j < ρ1.length then some (ρ1.set j (some y)) else none else none
    | _ => none
def Tgt.slots : Tgt → List Nat
  | .nm i => [i]
  | .tp is => is
  | .tn is j => is ++ [j]
theorem wipe_get (σ : St) : ∀ (vs : List Nat) (j : Nat), (wipe σ vs)[j]? = if j ∈ vs ∧ j < σ.length then some none else σ[j]?
  | [], j => by simp [wipe]
  | v :: vs, j => by
    unfold wipe
    by_cases e : v = j
    · subst e
      by_cases hl : v < σ.length
      · rw [List.getElem?_set_self (by rw [wipe_length]; exact hl), if_pos ⟨by simp, hl⟩]
      · rw [if_neg (by intro h; exact hl h.2), List.getElem?_eq_none (by rw [List.length_set, wipe_length]; omega), List.getElem?_eq_none (by omega)]
    · rw [List.getElem?_set_ne e, wipe_get σ vs j]
      by_cases hm : j ∈ vs ∧ j < σ.length
      · rw [if_pos hm, if_pos ⟨List.mem_cons_of_mem _ hm.1, hm.2⟩]
      · rw [if_neg hm, if_neg (fun h => hm ⟨(List.mem_cons.mp h.1).resolve_left (Ne.symm e), h.2⟩)]
theorem wipe_set {σ : St} {vs : List Nat} {i : Nat} {y : Option V} (h : i ∈ vs) : wipe (σ.set i y) vs = wipe σ vs := by
  refine List.ext_getElem? fun j => ?_
  rw [wipe_get, wipe_get, List.length_set]
  by_cases hm : j ∈ vs ∧ j < σ.length
  · rw [if_pos hm, if_pos hm]
  · rw [if_neg hm, if_neg hm]
    by_cases e : i = j
    · subst e
      have : σ.length ≤ i := Nat.le_of_not_lt fun z => hm ⟨h, z⟩
      rw [List.getElem?_eq_none (by simpa using this), List.getElem?_eq_none this]
    · rw [List.getElem?_set_ne e]
theorem wipe_wipe (σ : St) (vs : List Nat) : wipe (wipe σ vs) vs = wipe σ vs := by
  refine List.ext_getElem? fun j => ?_
  rw [wipe_get, wipe_length, wipe_get]
  by_cases hm : j ∈ vs ∧ j < σ.length
  · rw [if_pos hm, if_pos hm]
  · rw [if_neg hm]
def wipeM (ρ : Env) : List Nat → Env
  | [] => ρ
  | v :: vs => (wipeM ρ vs).set v none
theorem wipeM_len (ρ : Env) : ∀ vs : List Nat, (wipeM ρ vs).length = ρ.length
  | [] => rfl
  | v :: vs => by unfold wipeM; rw [List.length_set, wipeM_len ρ vs]
theorem wipeM_get (σ : Env) : ∀ (vs : List Nat) (j : Nat), (wipeM σ vs)[j]? = if j ∈ vs ∧ j < σ.length then some none else σ[j]?
  | [], j => by simp [wipeM]
  | v :: vs, j => by
    unfold wipeM
    by_cases e : v = j
    · subst e
      by_cases hl : v < σ.length
      · rw [List.getElem?_set_self (by rw [wipeM_len]; exact hl), if_pos ⟨by simp, hl⟩]
      · rw [if_neg (by intro h; exact hl h.2), List.getElem?_eq_none (by rw [List.length_set, wipeM_len]; omega), List.getElem?_eq_none (by omega)]
    · rw [List.getElem?_set_ne e, wipeM_get σ vs j]
      by_cases hm : j ∈ vs ∧ j < σ.length
      · rw [if_pos hm, if_pos ⟨List.mem_cons_of_mem _ hm.1, hm.2⟩]
      · rw [if_neg hm, if_neg (fun h => hm ⟨(List.mem_cons.mp h.1).resolve_left (Ne.symm e), h.2⟩)]
def perAt (ρ : Env) (vs : List Nat) : Bool := vs.all fun i => match ρ[i]? with
  | some (some x) => x.per
  | _ => true
def backM (ρ ρ' : Env) (vs : List Nat) : Env := vs.foldl (fun r i => r.set i ((ρ[i]?).join)) ρ'
section
variable {K : PySem.W.Frag} {F Hk H : Hp} {bp : List (Nat × Addr)} {σ : St} {ρ : Env}
theorem SL.setNone {ow : Nat → List Addr} (S : SL K F Hk H ow σ ρ) {i : Nat} : SL K F Hk H (put ow i []) (σ.set i none) (ρ.set i none) := by
  refine ⟨fun j y h => ?_, fun j a h => ?_, fun j h => ?_, fun j k a hjk h => ?_⟩
  · rcases set_get h with ⟨_, e⟩ | ⟨ne, e⟩
    · cases e
    · obtain ⟨u, e1, e2⟩ := S.s j y e
      exact ⟨u, by rw [List.getElem?_set_ne (Ne.symm ne)]; exact e1, by rw [put_ne ne]; exact e2⟩
  · by_cases e : j = i
    · rw [e, put_same] at h; cases h
    · rw [put_ne e] at h; exact S.f j a h
  · by_cases e : j = i
    · rw [e, put_same] at h; exact (h rfl).elim
    · rw [put_ne e] at h; rw [List.length_set]; exact S.w j h
  · by_cases e : j = i
    · rw [e, put_same] at h; cases h
    · rw [put_ne e] at h
      by_cases e2 : k = i
      · rw [e2, put_same]; simp
      · rw [put_ne e2]; exact S.d j k a hjk h
theorem RS.setNone (S : RS K F Hk H bp σ ρ) {i : Nat} (hb : ∀ q ∈ bp, q.1 ≠ i) : RS K F Hk H bp (σ.set i none) (ρ.set i none) := by
  obtain ⟨ow, s⟩ := S.ow
  exact ⟨by simp [S.len], S.ex, S.fr, S.frk, ⟨_, s.setNone⟩, fun q hq => by rw [List.getElem?_set_ne (Ne.symm (hb q hq))]; exact S.bor q hq⟩
theorem RS.wipe (S : RS K F Hk H bp σ ρ) : ∀ vs : List Nat, (∀ q ∈ bp, q.1 ∉ vs) → RS K F Hk H bp (L2.wipe σ vs) (wipeM ρ vs)
  | [], _ => S
  | v :: vs, hb => (RS.wipe S vs fun q hq z => hb q hq (List.mem_cons_of_mem _ z)).setNone fun q hq z => hb q hq (by rw [z]; simp)
theorem RS.back (S : RS K F Hk H bp (L2.wipe σ vs) (wipeM ρ' vs)) (S0 : ∀ i ∈ vs, ∀ x, ρ[i]? = some (some x) → ∃ v, σ[i]? = some (some v) ∧ RV K Hk x v) (hl : ρ.length = ρ'.length) (hl2 : σ.length = ρ.length) (hb : ∀ q ∈ bp, q.1 ∉ vs) : RS K F Hk H bp σ (backM ρ ρ' vs) := by
  have gb : ∀ (vs : List Nat) (r : Env) (j : Nat), r.length = ρ.length → (vs.foldl (fun r i => r.set i ((ρ[i]?).join)) r)[j]? = if j ∈ vs ∧ j < ρ.length then some ((ρ[j]?).join) else r[j]? := fun vs => by
    induction vs with
    | nil => intro r j _; simp
    | cons v vs ih =>
      intro r j hr
      rw [List.foldl_cons, ih _ j (by rw [List.length_set]; exact hr)]
      by_cases hm : j ∈ vs ∧ j < ρ.length
      · rw [if_pos hm, if_pos ⟨List.mem_cons_of_mem _ hm.1, hm.2⟩]
      · rw [if_neg hm]
        by_cases e : v = j
        · subst e
          by_cases hl : v < ρ.length
          · rw [List.getElem?_set_self (by rw [hr]; exact hl), if_pos ⟨by simp, hl⟩]
          · rw [if_neg (by intro h; exact hl h.2), List.getElem?_eq_none (by rw [List.length_set, hr]; omega), List.getElem?_eq_none (by omega)]
        · rw [List.getElem?_set_ne e, if_neg (fun h => hm ⟨(List.mem_cons.mp h.1).resolve_left (Ne.symm e), h.2⟩)]
  have gl : ∀ (vs : List Nat) (r : Env), (vs.foldl (fun r i => r.set i ((ρ[i]?).join)) r).length = r.length := fun vs => by
    induction vs with
    | nil => intro r; rfl
    | cons v vs ih => intro r; rw [List.foldl_cons, ih, List.length_set]
  obtain ⟨ow, s⟩ := S.ow
  have lb : (backM ρ ρ' vs).length = ρ.length := by unfold backM; rw [gl, ← hl]
  refine ⟨by rw [lb, hl2], S.ex, S.fr, S.frk, ⟨fun j => if j ∈ vs then [] else ow j, fun j y h => ?_, fun j a h => ?_, fun j h => ?_, fun j k a hjk h => ?_⟩, fun q hq => ?_⟩
  · unfold backM at h
    rw [gb vs ρ' j hl.symm] at h
    by_cases hm : j ∈ vs ∧ j < ρ.length
    · rw [if_pos hm] at h
      have e : ρ[j]? = some (some y) := by
        cases er : ρ[j]? with
        | none => rw [er] at h; cases h
        | some o => rw [er] at h; cases o with
          | none => cases h
          | some z => cases h; rfl
      obtain ⟨v, e1, r⟩ := S0 j hm.1 y e
      exact ⟨v, e1, by rw [if_pos hm.1]; exact r.ov⟩
    · rw [if_neg hm] at h
      have nj : j ∉ vs := fun z => hm ⟨z, by rw [hl]; exact lt_get h⟩
      obtain ⟨v, e1, o⟩ := s.s j y (by rw [wipeM_get, if_neg (fun z => nj z.1)]; exact h)
      rw [wipe_get, if_neg (fun z => nj z.1)] at e1
      exact ⟨v, e1, by rw [if_neg nj]; exact o⟩
  · by_cases e : j ∈ vs
    · rw [if_pos e] at h; cases h
    · rw [if_neg e] at h; exact s.f j a h
  · by_cases e : j ∈ vs
    · rw [if_pos e] at h; exact (h rfl).elim
    · rw [if_neg e] at h; have := s.w j h; rw [wipeM_len] at this; rw [lb, hl]; exact this
  · by_cases e : j ∈ vs
    · rw [if_pos e] at h; cases h
    · rw [if_neg e] at h
      by_cases e2 : k ∈ vs
      · rw [if_pos e2]; simp
      · rw [if_neg e2]; exact s.d j k a hjk h
  · have := S.bor q hq
    rw [wipe_get, if_neg (fun z => hb q hq z.1)] at this
    exact this
end
section
variable {X : Cx} {c : Ct}
theorem gs_rd {F Hk H : Hp} {bp : List (Nat × Addr)} {vs0 : List Nat} (hb : ∀ q ∈ bp, q.1 ∉ vs0) : ∀ (is : List Nat) (xs : List MV) (ws : List V) (σ : St) (ρ ρ' : Env) (Q : St → Hp → Prop), (∀ i ∈ is, i ∈ vs0) → RS c.K F Hk H bp σ ρ → RVs c.K Hk xs ws → setAll is xs ρ = some ρ' →
    (∀ σ', RS c.K F Hk H bp σ' ρ' → wipe σ' vs0 = wipe σ vs0 → Q σ' H) → gsOf is ws σ H Q
  | [], [], ws, σ, ρ, ρ', Q, _, S, r, e, k => by
    cases e
    exact ⟨RVs.nil.mp r, k σ S rfl⟩
  | [], x :: xs, ws, σ, ρ, ρ', Q, _, S, r, e, k => by cases e
  | i :: is, [], ws, σ, ρ, ρ', Q, _, S, r, e, k => by cases e
  | i :: is, x :: xs, ws, σ, ρ, ρ', Q, hi, S, r, e, k => by
    obtain ⟨v, us, rfl, r1, r2⟩ := RVs.cons.mp r
    unfold setAll at e
    split at e
    · rename_i hl
      have hm := hi i (by simp)
      refine ⟨v, us, rfl, ?_⟩
      refine gs_rd hb is xs us _ _ ρ' Q (fun j hj => hi j (List.mem_cons_of_mem _ hj)) (S.set hl r1 fun q hq z => hb q hq (z ▸ hm)) r2 e fun σ' S' w => k σ' S' (by rw [w, wipe_set hm])
    · cases e
theorem g_rd {F Hk H : Hp} {bp : List (Nat × Addr)} {vs0 : List Nat} (hb : ∀ q ∈ bp, q.1 ∉ vs0) {t : Tgt} {x : MV} {v : V} {σ : St} {ρ ρ' : Env} {Q : St → Hp → Prop} (hi : ∀ i ∈ t.slots, i ∈ vs0) (S : RS c.K F Hk H bp σ ρ) (r : RV c.K Hk x v) (e : setT t x ρ = some ρ')
    (k : ∀ σ', RS c.K F Hk H bp σ' ρ' → wipe σ' vs0 = wipe σ vs0 → Q σ' H) : gOf c.K t v σ H Q := by
  cases t with
  | nm i =>
    have e : (if i < ρ.length then some (ρ.set i (some x)) else none) = some ρ' := e
    split at e
    · rename_i hl
      cases e
      have hm := hi i (by simp [Tgt.slots])
      exact k _ (S.set hl r fun q hq z => hb q hq (z ▸ hm)) (wipe_set hm)
    · cases e
  | tp is =>
    cases x with
    | tup xs =>
      have e : (if xs.length = is.length then setAll is xs ρ else none) = some ρ' := e
      split at e
      · rename_i hl
        obtain ⟨a, ws, rfl, h1, s1⟩ := RV.tup.mp r
        exact ⟨a, ws, rfl, ex_t S.ex h1, by rw [s1.length, hl], gs_rd hb is xs ws σ ρ ρ' Q hi S s1 e k⟩
      · cases e
    | _ => cases e
  | tn is j =>
    unfold setT at e
    dsimp only at e
    split at e
    · rename_i xs y
      split at e
      · rename_i hl
        obtain ⟨a, ws, rfl, h1, s1⟩ := RV.tup.mp r
        obtain ⟨v1, w1, rfl, q1, s2⟩ := RVs.cons.mp s1
        obtain ⟨v2, w2, rfl, q2, s3⟩ := RVs.cons.mp s2
        rw [RVs.nil] at s3
        subst s3
        obtain ⟨b, us, rfl, h2, t1⟩ := RV.tup.mp q1
        obtain ⟨ρ1, e1, e2⟩ := Option.bind_eq_some_iff.mp e
        refine ⟨a, _, rfl, ex_t S.ex h1, rfl, ?_⟩
        refine ⟨.ref b, [v2], rfl, b, us, rfl, ex_t S.ex h2, by rw [t1.length, hl], gs_rd hb is xs us σ ρ ρ1 (fun σ' H' => gCons (gName j) gNil [v2] σ' H' Q) (fun i h => hi i (List.mem_append_left _ h)) S t1 e1 fun σ1 S1 z1 => ?_⟩
        split at e2
        · rename_i hj
          cases e2
          have hm := hi j (List.mem_append_right _ (List.mem_singleton.mpr rfl))
          exact ⟨v2, [], rfl, rfl, k _ (S1.set hj q2 fun q hq z => hb q hq (z ▸ hm)) (by rw [wipe_set hm, z1])⟩
        · cases e2
      · cases e
    · cases e
def Res.b0 {α β : Type} (r : Res (α × Env)) (f : α → Env → Res (β × Env)) : Res (β × Env) :=
  match r with
  | .ok (x, ρ) => f x ρ
  | _ => .stuck
def mLcLoop (g : Tgt) (t : MT) (e : ME) (vs : List Nat) : List MV → List MV → Env → Res (List MV × Env)
  | [], acc, ρ => .ok (acc, ρ)
  | x :: xs, acc, ρ => match setT g x (wipeM ρ vs) with
    | none => .stuck
    | some ρ1 => (t ρ1).b0 fun b ρ2 => if b then (e ρ2).b0 fun y ρ3 => (if acc.length < sizeLine ∧ ρ3.length = ρ.length then mLcLoop g t e vs xs (acc ++ [y]) ρ3 else .stuck) else if ρ2.length = ρ.length then mLcLoop g t e vs xs acc ρ2 else .stuck
def mYes : MT := fun ρ => .ok (true, ρ)
def mLcO (it : MI) (g : Tgt) (t : MT) (e : ME) (vs : List Nat) : ME := fun ρ => (it ρ).bind fun xs ρ1 => if perAt ρ1 vs then (mLcLoop g t e vs xs [] ρ1).b0 fun ys ρ2 => .ok (.own ys, backM ρ1 ρ2 vs) else .stuck
theorem b0E {F Hk H : Hp} {bp : List (Nat × Addr)} {σ : St} {ρ : Env} {β : Type} {P : Hp → Res (β × Env) → Prop} (st : ∀ Hk, ¬ P Hk .stuck) (mo : ∀ Hk Hk' r, Ex Hk Hk' → P Hk r → P Hk' r) {a : ME} {k : MV → Env → Res (β × Env)} (S : At c F Hk H bp σ ρ) (h : P Hk ((a ρ).b0 k)) :
    rdE c a σ H fun v H1 => ∃ Hk1 x ρ1, Ex Hk Hk1 ∧ At c F Hk1 H1 bp σ ρ1 ∧ RV c.K Hk1 x v ∧ P Hk1 (k x ρ1) := by
  refine ⟨F, Hk, bp, ρ, S, ?_⟩
  cases e : a ρ with
  | stuck => rw [e] at h; exact st _ h
  | exc x ρ' => rw [e] at h; exact (st _ h).elim
  | ok q =>
    rw [e] at h
    exact fun Hk1 H1 v x1 S1 r1 => ⟨Hk1, q.1, q.2, x1, ⟨S1, S.2⟩, r1, mo _ _ _ x1 h⟩
theorem b0T {F Hk H : Hp} {bp : List (Nat × Addr)} {σ : St} {ρ : Env} {β : Type} {P : Hp → Res (β × Env) → Prop} (st : ∀ Hk, ¬ P Hk .stuck) (mo : ∀ Hk Hk' r, Ex Hk Hk' → P Hk r → P Hk' r) {a : MT} {k : Bool → Env → Res (β × Env)} (S : At c F Hk H bp σ ρ) (h : P Hk ((a ρ).b0 k)) :
    rdT c a σ H fun b H1 => ∃ Hk1 ρ1, Ex Hk Hk1 ∧ At c F Hk1 H1 bp σ ρ1 ∧ P Hk1 (k b ρ1) := by
  refine ⟨F, Hk, bp, ρ, S, ?_⟩
  cases e : a ρ with
  | stuck => rw [e] at h; exact st _ h
  | exc x ρ' => rw [e] at h; exact (st _ h).elim
  | ok q =>
    rw [e] at h
    exact fun Hk1 H1 x1 S1 => ⟨Hk1, q.2, x1, ⟨S1, S.2⟩, mo _ _ _ x1 h⟩
def okB (c : Ct) (F Hk : Hp) (bp : List (Nat × Addr)) (σ : St) (Q : VK) (ρ0 : Env) (vs : List Nat) : Res (List MV × Env) → Prop
  | .ok (ys, ρ') => okO c F Hk bp σ Q (.ok (.own ys, backM ρ0 ρ' vs))
  | _ => False
theorem okB.mono {F Hk Hk' : Hp} {bp : List (Nat × Addr)} {σ : St} {Q : VK} {ρ0 : Env} {vs : List Nat} {r : Res (List MV × Env)} (x : Ex Hk Hk') (h : okB c F Hk bp σ Q ρ0 vs r) : okB c F Hk' bp σ Q ρ0 vs r := by
  cases r with
  | ok a => exact okO.mono (r := .ok (.own a.1, backM ρ0 a.2 vs)) x h
  | exc e ρ => exact h
  | stuck => exact h
theorem RS.inFr {K : PySem.W.Frag} {F Hk H : Hp} {bp : List (Nat × Addr)} {σ : St} {ρ : Env} {D : Addr} {xs : List V} (S : RS K F Hk H bp σ ρ) (h : H D = none) : RS K (upd F D (.lst xs)) Hk (upd H D (.lst xs)) bp σ ρ := by
  have S' := S.more (o := .lst xs) h
  obtain ⟨ow, s⟩ := S.ow
  refine ⟨S.len, S'.ex, S.fr.both h, fun a o ha => ?_, ⟨ow, fun i x hx => ?_, fun i a ha => ?_, s.w, s.d⟩, S.bor⟩
  · by_cases e : a = D
    · rw [e]; exact S.ex.back h
    · rw [upd_ne e] at ha; exact S.frk a o ha
  · obtain ⟨v, ev, o⟩ := s.s i x hx
    exact ⟨v, ev, o.move (Ex.refl _) fun a ha u hu => by rw [upd_ne (ne_of_none hu h)]; exact hu⟩
  · obtain ⟨g1, g2, o, g3⟩ := s.f i a ha
    have ne := ne_of_none g3 h
    exact ⟨g1, by rw [upd_ne ne]; exact g2, o, by rw [upd_ne ne]; exact g3⟩
theorem RS.grow {K : PySem.W.Frag} {F Hk H : Hp} {bp : List (Nat × Addr)} {σ : St} {ρ : Env} {D : Addr} {xs ys : List V} (S : RS K (upd F D (.lst xs)) Hk H bp σ ρ) : RS K (upd F D (.lst ys)) Hk (upd H D (.lst ys)) bp σ ρ := by
  have hk : Hk D = none := S.frk D _ upd_same
  obtain ⟨ow, s⟩ := S.ow
  have nd : ∀ i a, a ∈ ow i → a ≠ D := fun i a ha e => by
    have := (s.f i a ha).2.1
    rw [e, upd_same] at this
    cases this
  refine ⟨S.len, S.ex.mut hk, fun a o ha => ?_, fun a o ha => ?_, ⟨ow, fun i x hx => ?_, fun i a ha => ?_, s.w, s.d⟩, S.bor⟩
  · by_cases e : a = D
    · subst e; rw [upd_same] at ha ⊢; exact ha
    · rw [upd_ne e] at ha ⊢; exact S.fr a o (by rw [upd_ne e]; exact ha)
  · by_cases e : a = D
    · rw [e]; exact hk
    · rw [upd_ne e] at ha; exact S.frk a o (by rw [upd_ne e]; exact ha)
  · obtain ⟨v, ev, o⟩ := s.s i x hx
    exact ⟨v, ev, o.move (Ex.refl _) fun a ha u hu => by rw [upd_ne (nd i a ha)]; exact hu⟩
  · obtain ⟨g1, g2, o, g3⟩ := s.f i a ha
    exact ⟨g1, by have := nd i a ha; rw [upd_ne this] at g2 ⊢; exact g2, o, by rw [upd_ne (nd i a ha)]; exact g3⟩
theorem RS.outFr {K : PySem.W.Frag} {F Hk H : Hp} {bp : List (Nat × Addr)} {σ : St} {ρ : Env} {D : Addr} {vs : List V} {xs : List MV} (S : RS K (upd F D (.lst vs)) Hk H bp σ ρ) (hF : F D = none) (r : RVs K Hk xs vs) : RS K F Hk H bp (σ ++ [some (.ref D)]) (ρ ++ [some (.own xs)]) := by
  have hk : Hk D = none := S.frk D _ upd_same
  have hH : H D = some (.lst vs) := S.fr D _ upd_same
  have up : ∀ a o, F a = some o → upd F D (.lst vs) a = some o := fun a o ha => by rw [upd_ne (ne_of_none ha hF)]; exact ha
  obtain ⟨ow, s⟩ := S.ow
  have nd : ∀ i a, a ∈ ow i → a ≠ D := fun i a ha e => by
    have := (s.f i a ha).2.1
    rw [e, upd_same] at this
    cases this
  have s' : SL K F Hk H ow σ ρ := ⟨s.s, fun i a ha => by
    obtain ⟨g1, g2, g3⟩ := s.f i a ha
    exact ⟨g1, by rw [upd_ne (nd i a ha)] at g2; exact g2, g3⟩, s.w, s.d⟩
  refine ⟨by simp [S.len], S.ex, fun a o ha => S.fr a o (up a o ha), fun a o ha => S.frk a o (up a o ha), ⟨_, s'.push S.len (A := [D]) (OV.own.mpr ⟨D, vs, rfl, rfl, hH, r⟩) (fun a ha => ?_) (fun i a ha hi => ?_)⟩, S.bor_app _⟩
  · simp at ha; subst ha; exact ⟨hk, hF⟩
  · simp at ha; subst ha; exact nd i a hi rfl
theorem rd_lc {it : MI} {g : Tgt} {t : MT} {e : ME} {vs : List Nat} {σ : St} {H : Hp} {Q : VK} (hg : ∀ i ∈ g.slots, i ∈ vs) (hbs : ∀ i ∈ vs, c.bs.contains i = false) (h : rdO c (mLcO it g t e vs) σ H Q) : tLc (rdI c it) (gOf c.K g) (rdT c t) (rdE c e) vs σ H Q := by
  obtain ⟨F, Hk, bp, ρ, S, h⟩ := h
  have hb : ∀ q ∈ bp, q.1 ∉ vs := fun q hq z => nb S.2.1 (hbs _ z) q hq rfl
  refine ⟨F, Hk, bp, ρ, S, ?_⟩
  have h : okO c F Hk bp σ Q ((it ρ).bind fun xs ρ1 => if perAt ρ1 vs then (mLcLoop g t e vs xs [] ρ1).b0 fun ys ρ2 => .ok (.own ys, backM ρ1 ρ2 vs) else .stuck) := h
  cases ei : it ρ with
  | stuck => rw [ei] at h; exact h
  | exc x ρ' => rw [ei] at h; exact h
  | ok p =>
    obtain ⟨xs, ρ1⟩ := p
    rw [ei] at h
    intro Hk1 H1 J x1 S1 wk D hD
    have h : okO c F Hk1 bp σ Q (if perAt ρ1 vs then (mLcLoop g t e vs xs [] ρ1).b0 fun ys ρ2 => .ok (.own ys, backM ρ1 ρ2 vs) else .stuck) := okO.mono x1 h
    split at h
    · rename_i hper
      have h : okB c F Hk1 bp σ Q ρ1 vs (mLcLoop g t e vs xs [] ρ1) := by
        cases e2 : mLcLoop g t e vs xs [] ρ1 with
        | ok q => rw [e2] at h; exact h
        | exc x r => rw [e2] at h; exact h
        | stuck => rw [e2] at h; exact h
      have fD : F D = none := by
        cases e : F D with
        | none => rfl
        | some o => have := S1.fr D o e; rw [hD] at this; cases this
      have p0 : ∀ i ∈ vs, ∀ x, ρ1[i]? = some (some x) → ∃ v, σ[i]? = some (some v) ∧ RV c.K Hk1 x v := fun i hi x hx => by
        have z := List.all_eq_true.mp hper i hi
        rw [hx] at z
        exact S1.get hx z
      refine ⟨fun i m H' => m = xs.length - i ∧ i ≤ xs.length ∧ ∃ Hk' ρ' acc ws, Ex Hk1 Hk' ∧ RS c.K (upd F D (.lst ws)) Hk' H' bp (wipe σ vs) (wipeM ρ' vs) ∧ RVs c.K Hk' acc ws ∧ ρ'.length = ρ1.length ∧ okB c F Hk' bp σ Q ρ1 vs (mLcLoop g t e vs (xs.drop i) acc ρ'),
        ⟨xs.length, by simp, Nat.zero_le _, Hk1, ρ1, [], [], Ex.refl _, (S1.wipe vs hb).inFr hD, RVs.nil.mpr rfl, rfl, h⟩, ?_⟩
      rintro i m H' ⟨rfl, hi, Hk', ρ', acc, ws, x', S', ra, hl, h'⟩
      by_cases hlt : i < xs.length
      · refine .inr ⟨wk.go i H' (x'.trans S'.ex) hlt, fun H2 => ∃ Hk2 ρ2 acc2 ws2, Ex Hk1 Hk2 ∧ RS c.K (upd F D (.lst ws2)) Hk2 H2 bp (wipe σ vs) (wipeM ρ2 vs) ∧ RVs c.K Hk2 acc2 ws2 ∧ ρ2.length = ρ1.length ∧ okB c F Hk2 bp σ Q ρ1 vs (mLcLoop g t e vs (xs.drop (i + 1)) acc2 ρ2),
          fun H2 z => ⟨xs.length - (i + 1), by omega, rfl, hlt, z⟩, fun x H2 y => ?_⟩
        obtain ⟨z, ez, hz⟩ := wk.yld i H' x H2 (x'.trans S'.ex) hlt y
        have ed : xs.drop i = z :: xs.drop (i + 1) := by
          rw [List.drop_eq_getElem_cons hlt]
          rw [List.getElem?_eq_getElem hlt] at ez
          cases ez; rfl
        rw [ed] at h'
        have st : ∀ Hk, ¬ okB c F Hk bp σ Q ρ1 vs .stuck := fun _ f => f
        have mo : ∀ Hk Hk' r, Ex Hk Hk' → okB c F Hk bp σ Q ρ1 vs r → okB c F Hk' bp σ Q ρ1 vs r := fun _ _ _ x h => okB.mono x h
        have fin : ∀ Hk3, Ex Hk' Hk3 → RS c.K (upd F D (.lst ws)) Hk3 H2 bp (wipe σ vs) (wipeM ρ' vs) → RV c.K Hk3 z x →
            gOf c.K g x (wipe σ vs) H2 fun σ2 H2 => wipe σ2 vs = wipe σ vs ∧ rdT c t σ2 H2 fun b H3 => if b = true then rdE c e σ2 H3 fun y H4 => ∃ acc, H4 D = some (.lst acc) ∧ acc.length < sizeLine ∧
              (∃ Hk2 ρ2 acc2 ws2, Ex Hk1 Hk2 ∧ RS c.K (upd F D (.lst ws2)) Hk2 (upd H4 D (.lst (acc ++ [y]))) bp (wipe σ vs) (wipeM ρ2 vs) ∧ RVs c.K Hk2 acc2 ws2 ∧ ρ2.length = ρ1.length ∧ okB c F Hk2 bp σ Q ρ1 vs (mLcLoop g t e vs (xs.drop (i + 1)) acc2 ρ2)) else
              ∃ Hk2 ρ2 acc2 ws2, Ex Hk1 Hk2 ∧ RS c.K (upd F D (.lst ws2)) Hk2 H3 bp (wipe σ vs) (wipeM ρ2 vs) ∧ RVs c.K Hk2 acc2 ws2 ∧ ρ2.length = ρ1.length ∧ okB c F Hk2 bp σ Q ρ1 vs (mLcLoop g t e vs (xs.drop (i + 1)) acc2 ρ2) := fun Hk3 x3 S3 r3 => by
          have h' := okB.mono x3 h'
          unfold mLcLoop at h'
          cases eg : setT g z (wipeM ρ' vs) with
          | none => rw [eg] at h'; exact h'.elim
          | some ρ3 =>
            rw [eg] at h'
            refine g_rd hb hg S3 r3 eg fun σ2 S4 w2 => ⟨by rw [w2, wipe_wipe], ?_⟩
            have w2' : wipe σ2 vs = wipe σ vs := by rw [w2, wipe_wipe]
            refine rdTw (b0T st mo ⟨S4, S.2.1, c.Jm _ _ _ (Ex.new fD) S.2.2⟩ h') fun b H3 ⟨Hk4, ρ4, x4, S5, h5⟩ => ?_
            cases b with
            | true =>
              rw [if_pos rfl] at h5 ⊢
              refine rdw (b0E st mo S5 h5) fun y H4 ⟨Hk5, yy, ρ5, x5, S6, r6, h6⟩ => ?_
              split at h6
              · rename_i hz
                have ra' := ra.mono (x3.trans (x4.trans x5))
                refine ⟨ws, S6.1.fr D _ upd_same, by rw [ra'.length]; exact hz.1, Hk5, ρ5, acc ++ [yy], ws ++ [y], x'.trans (x3.trans (x4.trans x5)), ?_, ra'.append (RVs.cons.mpr ⟨y, [], rfl, r6, RVs.nil.mpr rfl⟩), by rw [hz.2, hl], h6⟩
                have := (S6.1.wipe vs hb)
                rw [w2'] at this
                exact this.grow
              · exact h6.elim
            | false =>
              rw [if_neg (by decide)] at h5 ⊢
              split at h5
              · rename_i hz
                refine ⟨Hk4, ρ4, acc, ws, x'.trans (x3.trans x4), ?_, ra.mono (x3.trans x4), by rw [hz, hl], h5⟩
                have := (S5.1.wipe vs hb)
                rw [w2'] at this
                exact this
              · exact h5.elim
        rcases hz with ⟨rfl, r⟩ | ⟨p, us, ys, hp, rfl, rfl, rfl, r⟩
        · exact fin Hk' (Ex.refl _) S' (RV.mono x' _ _ r)
        · have xn := Ex.new (o := .tup us) (S'.ex.back hp)
          exact fin _ xn (S'.new hp) (RV.tup.mpr ⟨p, us, rfl, SqT.of upd_same, r.mono (x'.trans xn)⟩)
      · have e : i = xs.length := by omega
        subst e
        rw [List.drop_length] at h'
        refine .inl ⟨wk.stop H' (x'.trans S'.ex), ?_⟩
        have out := S'.outFr fD ra
        have bk : RS c.K (upd F D (.lst ws)) Hk' H' bp σ (backM ρ1 ρ' vs) := RS.back S' (fun i hi x hx => by
          obtain ⟨v, ev, rv⟩ := p0 i hi x hx
          exact ⟨v, ev, RV.mono x' _ _ rv⟩) hl.symm S1.len hb
        exact h' _ _ _ (Ex.refl _) (bk.outFr fD ra)
    · exact h.elim
end
end Tm
set_option Elab.async false
set_option linter.all false
set_option maxRecDepth 100000
set_option maxHeartbeats 2000000
namespace Tm
open PySem L2
theorem hbs_of {bs vs : List Nat} (h : (vs.all fun v => !bs.contains v) = true) : ∀ i ∈ vs, bs.contains i = false := fun i hi => by
  have := List.all_eq_true.mp h i hi
  simpa using this
open Evl (Ex ex_rd ex_l ex_t)
section
variable {X : Cx} {c : Ct} {elt tg iter : Expr} {ifs : List Expr} {scope : Scope} {own : List (Str × Nat)} {pos : Pos} {it : MI} {g : Tgt} {t : MT} {e : ME}
theorem mts_nil : PTs X [] (rdT c mYes) := ⟨fun pins s σ H Q I ⟨F, Hk, bp, ρ, S, h⟩ => pts_nil.run pins s σ H Q I (h _ _ (Ex.refl _) S.1)⟩
theorem mo_lc (hc : X.calm = true) (hN : X.N.Nodup) (hi : PI X tg iter (rdI c it)) (ok : BlkOk X.N X.env.scope scope own) (hg : ∀ (s : Shared) (H : Hp) (C : Addr) (cl : List (Str × Addr)) (fp : List Addr), PG (X.blk s H scope (compEnvC scope cl C X.env) fp) tg (gOf X.K g))
    (ht : ∀ (s : Shared) (H : Hp) (C : Addr) (cl : List (Str × Addr)) (fp : List Addr), PTs (X.blk s H scope (compEnvC scope cl C X.env) fp) ifs (rdT c t)) (he : ∀ (s : Shared) (H : Hp) (C : Addr) (cl : List (Str × Addr)) (fp : List Addr), PE (X.blk s H scope (compEnvC scope cl C X.env) fp) elt (rdE c e))
    (hgs : ∀ i ∈ g.slots, i ∈ own.map (·.2) := by decide) (hbs : ∀ i ∈ own.map (·.2), c.bs.contains i = false := by decide) (hK : c.K = X.K := by rfl) (hs : ∀ x, foldedSetIterable iter X.env x = pure x := by intro _; rfl) :
    PE X (.ListComp elt [⟨tg, iter, ifs, 0⟩] scope pos) (rdO c (mLcO it g t e (own.map (·.2)))) := PEw (pe_lc hc hN hi ok hg ht he hs) fun σ H Q h => by rw [← hK]; exact rd_lc hgs hbs h
theorem ms_setLc {i : Nat} {y : Str} {py spos : Pos} (hc : X.calm = true) (hN : X.N.Nodup) (hy : X.N[i]? = some y) (hyl : X.env.scope.names.lookup y = some .local) (hsw : swapsWith (.ListComp elt [⟨tg, iter, ifs, 0⟩] scope pos) (some (.Name y py)) spos.line X.env = pure true)
    (hi : PI X tg iter (rdI c it)) (ok : BlkOk X.N X.env.scope scope own) (hg : ∀ (s : Shared) (H : Hp) (C : Addr) (cl : List (Str × Addr)) (fp : List Addr), PG (X.blk s H scope (compEnvC scope cl C X.env) fp) tg (gOf X.K g))
    (ht : ∀ (s : Shared) (H : Hp) (C : Addr) (cl : List (Str × Addr)) (fp : List Addr), PTs (X.blk s H scope (compEnvC scope cl C X.env) fp) ifs (rdT c t)) (he : ∀ (s : Shared) (H : Hp) (C : Addr) (cl : List (Str × Addr)) (fp : List Addr), PE (X.blk s H scope (compEnvC scope cl C X.env) fp) elt (rdE c e))
    (hb : c.bs.contains i = false := by rfl) (hgs : ∀ i ∈ g.slots, i ∈ own.map (·.2) := by decide) (hbs : ∀ i ∈ own.map (·.2), c.bs.contains i = false := by decide) (hK : c.K = X.K := by rfl) (hs : ∀ x, foldedSetIterable iter X.env x = pure x := by intro _; rfl) :
    PS X (.Assign [.Name y py] (.ListComp elt [⟨tg, iter, ifs, 0⟩] scope pos) spos) (rdS c (mSetO i (mLcO it g t e (own.map (·.2))))) := PSw (ps_setLc hc hN hy hyl hsw hi ok hg ht he hs) fun D σ H h => by
    obtain ⟨F, Hk, bp, ρ, S, h⟩ := rd_setO hb h
    rw [← hK]
    exact rd_lc hgs hbs ⟨F, Hk, bp, ρ, S, h⟩
end
theorem only_rs {K : PySem.W.Frag} {H : Hp} {a : Addr} {ns : List Int} (h : SqL K H a (ns.map V.int)) : RS K (fun _ => none) H H [] ([V.ref a].map some) ([MV.scr ns].map some) :=
  RS.args (Ex.refl _) (fun _ _ z => nomatch z) (fun _ _ z => nomatch z) (RVs.cons.mpr ⟨_, [], rfl, RV.scr.mpr ⟨a, rfl, h⟩, RVs.nil.mpr rfl⟩)
theorem walk_law {l : PySem.W.OpenLaw} {k : Nat} {q : Program} {loose : List Str} {XP : (Str → Option Value) → Heap → Prop} {YP : World → Heap → Prop} {d : DefRec} {K : Params → PySem.W.Frag} {x : Str} {f : MF}
    (hn : l.most = some 63) (hdf : d.params.defaults = []) (hr : Room k callerA) (hY : ∀ (w : World) (h : Heap), YP w h → (K w.params).In h)
    (hf : ∀ ns : List Int, ns.length ≤ 63 → ∃ bs, f [.scr ns] = .ok (.bl true, bs))
    (F : ∀ (w : World) (mg : Str → Option Value) (fa : Addr) (h : Heap), (K w.params).In h → h.Ns mainGlobals mg → mg d.name = some (.ref fa) →
      ∃ fd : FuncData, (∀ (s : Shared) (u : Value), BindsTo s fd ⟨[u], []⟩ [(x, u)]) ∧
        ∀ base : Heap, (K w.params).In base → base.Ns mainGlobals mg → FnOk l.prog w (K w.params) mg base (L2N.CX l.prog w) k fa fd [x] (spF (K w.params) mg 1 [] f)) :
    PySem.W.WalkO q loose XP YP l.row.toRowW d [] (fun f vs => PySem.call f vs) := by
  refine L2.walk_of (x := x) (K := K) (CX := fun w => L2N.CX l.prog w) (sp := fun w vs H Q E => ∃ (a : Addr) (ns : List Int), vs = [.ref a] ∧ ns.length ≤ 63 ∧ SqL (K w.params) H a (ns.map V.int) ∧ ∀ H', Q (.bl true) H') hn (by rw [sizeLine_eq]; decide) hdf hr hY (fun w mg fa h KX G hmg => ?_) (fun w H a ns hl _ hS => ⟨a, ns, rfl, hl, hS, fun _ => rfl⟩) ?_
  · obtain ⟨fd, hb, hF⟩ := F w mg fa h KX G hmg
    refine ⟨fd, hb, fun base h1 h2 => (hF base h1 h2).imp ?_⟩
    rintro vs H Q E ⟨a, ns, rfl, hl, hS, q⟩
    obtain ⟨bs, e⟩ := hf ns hl
    refine ⟨rfl, fun _ => none, H, [], [.scr ns], only_rs hS, rfl, ?_⟩
    rw [e]
    intro Hk' H' w x S'
    have bl : bs.length = 0 := by have := S'.len; simpa using this.symm
    have be : bs = [] := List.eq_nil_of_length_eq_zero bl
    subst be
    obtain ⟨v, ev, rv⟩ := S'.get (i := 0) (x := .bl true) rfl rfl
    cases ev
    rw [RV.bl.mp rv]
    exact q _
  · rintro w H s e s' ⟨_, _, _, _, _, _, _, _, _, _, _, _, f⟩
    exact f
structure Fd (P : Program) (w : World) (K : PySem.W.Frag) (mg : Str → Option Value) (base : Heap) (x : Str) (k : Nat) (ps : List Str) (bs : List Nat) (f : MF) : Prop where
  ex : ∃ (a : Addr) (fd : FuncData), FnOk P w K mg base (L2N.CX P w) k a fd ps (spF K mg ps.length bs f) ∧ mg x = some (.ref a) ∧ PySem.W.keepIn K (.ref a) = true ∧ Binds K fd ps []
structure Bn (mg : Str → Option Value) : Prop where
  len : mg "len" = none
  range : mg "range" = none
  abs : mg "abs" = none
  max : mg "max" = none
  min : mg "min" = none
  int : mg "int" = none
  str : mg "str" = none
  tuple : mg "tuple" = none
  list : mg "list" = none
  all : mg "all" = none
  any : mg "any" = none
  isinstance : mg "isinstance" = none
  divmod : mg "divmod" = none
  sum : mg "sum" = none
  zip : mg "zip" = none
  enumerate : mg "enumerate" = none
  reversed : mg "reversed" = none
  sorted : mg "sorted" = none
  dict : mg "dict" = none
  set : mg "set" = none
  bool : mg "bool" = none
section
variable {X : Cx} {c : Ct} {k : Nat} {ps : List Str} {x : Str} {p pos : Pos} {e : Expr} {es : List Expr} {f : MF} {a : MA} {j : Nat}
theorem mf_call (G : Fd X.prog X.w X.K X.mg X.base x k ps [] f) (hr : Room j X.A) (hj : k ≤ j) (tk : L2N.Takes X c.W) (ha : PA X (e :: es) (rdA c a)) (hn : Lng a ps.length) (hg : Gl X x := by rfl) (hK : c.K = X.K := by rfl) (hM : c.mg = X.mg := by rfl) (hdb : (x == ("__debug__" : Str)) = false := by decide)
    (he : starEach (e :: es) X.env = (false, eval e X.env) :: starEach es X.env := by rfl) (hpl : (backTo pos (starEach es X.env)).any (·.1) = false := by rfl) : PE X (.Call (.Name x p) (e :: es) [] pos) (rdO c (mCall f a)) := by
  obtain ⟨fa, fd, F, hm, hk, hb⟩ := G.ex
  exact mo_call F (hr.mono hj) hm hk hb tk ha hn hg hK hM hdb he hpl
theorem mf_call0 (G : Fd X.prog X.w X.K X.mg X.base x k ps [] f) (hr : Room j X.A) (hj : k ≤ j) (ha : PA X (e :: es) (rdA c a)) (hn : Lng a ps.length) (hg : Gl X x := by rfl) (hK : c.K = X.K := by rfl) (hM : c.mg = X.mg := by rfl) (hdb : (x == ("__debug__" : Str)) = false := by decide)
    (he : starEach (e :: es) X.env = (false, eval e X.env) :: starEach es X.env := by rfl) (hpl : (backTo pos (starEach es X.env)).any (·.1) = false := by rfl) : PE X (.Call (.Name x p) (e :: es) [] pos) (rdO c (mCall0 f a)) := by
  obtain ⟨fa, fd, F, hm, hk, hb⟩ := G.ex
  exact mo_call0 F (hr.mono hj) hm hk hb ha hn hg hK hM hdb he hpl
end
end Tm
set_option Elab.async false
set_option linter.all false
set_option maxRecDepth 100000
set_option maxHeartbeats 2000000
namespace Tm
open PySem L2
open Evl (Ex ex_rd ex_l ex_t)
def Cst (K : PySem.W.Frag) (mg : Str → Option Value) (x : Str) (v : MV) : Prop := ∃ w u, mg x = some u ∧ RelV w u ∧ ∀ H, RV K H v w
section
variable {X : Cx} {c : Ct} {x : Str} {pos : Pos}
theorem mf_con {v : MV} (h : Cst X.K X.mg x v) (hg : Gl X x := by rfl) (hK : c.K = X.K := by rfl) (hd : (x == ("__debug__" : Str)) = false := by decide) : PE X (.Name x pos) (rdE c (mC v)) := by
  obtain ⟨w, u, hm, rv, r⟩ := h
  exact me_glob hm rv (by rw [hK]; exact r) hg hd
end
theorem cst_int {K : PySem.W.Frag} {mg : Str → Option Value} {x : Str} {i : Int} {t : Tok} (h : mg x = some (.int i t)) : Cst K mg x (.int i) := ⟨.int i, _, h, ⟨t, rfl⟩, fun _ => RV.int.mpr rfl⟩
def flatIs : MV → Value → Bool
  | .int i, .int j _ => i == j
  | .str i, .str j _ => i == j
  | .non, .none => true
  | .bl a, .bool b => a == b
  | _, _ => false
def flatsIs : List MV → List Value → Bool
  | [], [] => true
  | x :: xs, v :: vs => flatIs x v && flatsIs xs vs
  | _, _ => false
theorem flat_is {K : PySem.W.Frag} {H : Hp} {x : MV} {v : Value} (h : flatIs x v = true) : ∃ w, RelV w v ∧ RV K H x w := by
  unfold flatIs at h
  split at h
  · rw [beq_iff_eq.mp h]; exact ⟨.int _, ⟨_, rfl⟩, RV.int.mpr rfl⟩
  · rw [beq_iff_eq.mp h]; exact ⟨.str _, ⟨_, rfl⟩, RV.str.mpr rfl⟩
  · exact ⟨.non, rfl, RV.non.mpr rfl⟩
  · rw [beq_iff_eq.mp h]; exact ⟨.bl _, rfl, RV.bl.mpr rfl⟩
  · cases h
theorem flats_is {K : PySem.W.Frag} {H : Hp} : ∀ {xs : List MV} {vs : List Value}, flatsIs xs vs = true → ∃ ws, Vals ws vs ∧ RVs K H xs ws
  | [], [], _ => ⟨[], .nil, RVs.nil.mpr rfl⟩
  | x :: xs, v :: vs, h => by
    unfold flatsIs at h
    rw [Bool.and_eq_true] at h
    obtain ⟨w, r1, r2⟩ := flat_is (K := K) (H := H) h.1
    obtain ⟨ws, r3, r4⟩ := flats_is (K := K) (H := H) h.2
    exact ⟨w :: ws, .cons r1 r3, RVs.cons.mpr ⟨w, ws, rfl, r2, r4⟩⟩
  | [], _ :: _, h => by cases h
  | _ :: _, [], h => by cases h
theorem flats_rv {K : PySem.W.Frag} {H H' : Hp} : ∀ {xs : List MV} {ws : List V} {vs : List Value}, flatsIs xs vs = true → RVs K H xs ws → RVs K H' xs ws
  | [], _, _, _, r => RVs.nil.mpr (RVs.nil.mp r)
  | x :: xs, ws, [], h, r => by cases h
  | x :: xs, ws, v :: vs, h, r => by
    unfold flatsIs at h
    rw [Bool.and_eq_true] at h
    obtain ⟨w, us, rfl, r1, r2⟩ := RVs.cons.mp r
    have f : flatM x = true := by
      have := h.1
      unfold flatIs at this
      split at this <;> first | rfl | cases this
    exact RVs.cons.mpr ⟨w, us, rfl, flat_rv f r1, flats_rv h.2 r2⟩
theorem cst_tup {K : PySem.W.Frag} {mg : Str → Option Value} {x : Str} {a : Addr} {dd : Option Addr} {its : Array Value} {n : Nat} {sl : Array (Option Value)} {xs : List MV} (h : mg x = some (.ref a)) (l : K.lookup a = some ⟨.type "tuple", dd, .seq its n, sl⟩) (e : flatsIs xs its.toList = true) (z : its.size ≤ 1000) : Cst K mg x (.tup xs) := by
  obtain ⟨ws, r1, r2⟩ := flats_is (K := K) (H := fun _ => none) e
  exact ⟨.ref a, _, h, rfl, fun H => RV.tup.mpr ⟨a, ws, rfl, .inr ⟨_, its, n, l, rfl, rfl, Nat.le_trans z (by rw [sizeLine_eq]; decide), r1⟩, flats_rv e r2⟩⟩
end Tm
set_option Elab.async false
set_option linter.all false
set_option maxRecDepth 100000
set_option maxHeartbeats 2000000
namespace Tm
open PySem L2
open Evl (Ex ex_rd ex_l ex_t)
theorem blkOk_at {N N' : List Str} {sc sc' bs : Scope} {own : List (Str × Nat)} (hN : N = N') (hs : sc = sc') (h : blkC N' sc' bs own = true) : BlkOk N sc bs own := by
  subst hN hs
  exact blkOk_by h
end Tm
set_option Elab.async false
set_option linter.all false
set_option maxRecDepth 100000
set_option maxHeartbeats 2000000
namespace HT
open PySem PySem.Spec PyProof.Rows
section
variable {prog : Program} {w : World} {A : Around} {E : Value → Shared → Prop} {s : Shared}
theorem fm_congr {α β : Type} {f g : α → Option β} : ∀ l : List α, (∀ x ∈ l, f x = g x) → l.filterMap f = l.filterMap g
  | [], _ => rfl
  | x :: l, h => by
    rw [List.filterMap_cons, List.filterMap_cons, h x (List.mem_cons_self ..), fm_congr l fun y hy => h y (List.mem_cons_of_mem _ hy)]
theorem rev_pick (xs : Array Value) : ((List.range xs.size).filterMap fun (m : Nat) => xs[(((xs.size : Int) - 1) + (m : Int) * (-1)).toNat]?).toArray = xs.toList.reverse.toArray := by
  have e : ((List.range xs.size).filterMap fun (m : Nat) => xs[(((xs.size : Int) - 1) + (m : Int) * (-1)).toNat]?) = ((List.range xs.size).map fun k => xs.size - 1 - k).filterMap (xs[·]?) := by
    rw [List.filterMap_map]
    refine fm_congr _ fun k hk => ?_
    have := List.mem_range.mp hk
    have e2 : (((xs.size : Int) - 1) + (k : Int) * (-1)).toNat = xs.size - 1 - k := by omega
    rw [e2]
    rfl
  rw [e, PySem.W.krv_range, List.filterMap_reverse, PySem.W.krv_all]
theorem sliceApplied_rev {sl : Addr} {vs : Value} {n : Nat} {Q : Int × Int × Nat → Shared → Prop} (hs : s.heap.IsSliceOf sl .none .none vs) (ps : IsPart vs (some (-1)))
    (h : Q ((n : Int) - 1, -1, n) s) : wpAny (model prog w) A (Builtin.Slice.sliceApplied (.ref sl) (pure (n : Int))) Q E s := by
  obtain ⟨os, hos, hcs, hds⟩ := id hs
  unfold Builtin.Slice.sliceApplied Builtin.Slice.sliceFields
  refine wpAny_bind (wpAny_bind (wpAny_field hos hds (x := .none) rfl (wpAny_bind (wpAny_field hos hds (x := .none) rfl (wpAny_bind (wpAny_field hos hds (x := vs) rfl (wpAny_pure ?_)))))))
  refine wpAny_bind (slicePart_ ps ?_)
  show wpAny _ _ (if ((-1 : Int) == 0) = true then _ else _) _ _ s
  rw [if_neg (by decide)]
  refine wpAny_bind (slicePart_none (wpAny_bind (slicePart_none (wpAny_bind (wpAny_pure ?_)))))
  show wpAny _ _ (match Builtin.Slice.sliceAdjust none none (-1) (n : Int) with | (lo, hi) => pure (lo, (-1 : Int), Builtin.Slice.slicePlaces lo hi (-1))) _ _ s
  have e : Builtin.Slice.sliceAdjust none none (-1) (n : Int) = ((n : Int) - 1, -1) := by
    simp [Builtin.Slice.sliceAdjust]
  rw [e]
  have e2 : Builtin.Slice.slicePlaces ((n : Int) - 1) (-1) (-1) = n := by
    unfold Builtin.Slice.slicePlaces
    simp
    omega
  show wpAny _ _ (pure ((n : Int) - 1, (-1 : Int), Builtin.Slice.slicePlaces ((n : Int) - 1) (-1) (-1))) _ _ s
  rw [e2]
  exact wpAny_pure h
theorem getItem_tuple_rev {t sl : Addr} {items : Array Value} {vs : Value} {Q : Value → Shared → Prop} (ht : IsTup s.heap t items) (hs : s.heap.IsSliceOf sl .none .none vs) (ps : IsPart vs (some (-1)))
    (h : Q (.ref s.heap.objs.size) { s with heap := s.heap.push { cls := .type "tuple", data := .seq items.toList.reverse.toArray } })
    (hsz : items.size ≤ sizeLine) : wpAny (model prog w) A (getItem (.ref t) (.ref sl)) Q E s := by
  have htake : sizeOk (.seq items.toList.reverse.toArray) := by
    show items.toList.reverse.toArray.size ≤ sizeLine
    rw [List.size_toArray, List.length_reverse, Array.length_toList]
    exact hsz
  obtain ⟨os, hos, hcs, hds⟩ := id hs
  have hTs : s.TypeIs (.ref sl) "slice" := ⟨os, hos, hcs⟩
  unfold getItem
  try with_reducible refine wpAny_holding ?_
  first | refine wpAny_bind (wpAny_pure ?_) | skip
  refine wpAny_bind (wpAny_sequenceKey ht.typeIs (by decide) ?_)
  refine wpAny_bind (wpAny_callSpecial?_slot (name := Str.ofString "__getitem__") ht.typeIs PyProof.Rows.slot_tuple_getitem
    (wpAny_call_entry PyProof.Rows.slot_tuple_getitem ht.typeIs entry_tuple_getitem ?_ (args_tuple_getitem _ _)))
  show wpAny _ _ (Builtin.Tuple.tupleItemsOf (.ref t) >>= _) _ _ s
  refine wpAny_bind (tupleItemsOf_ ht ?_)
  refine wpAny_bind (wpAny_typeOf hTs ?_)
  rw [if_pos (by decide)]
  refine wpAny_bind (sliceApplied_rev hs ps ?_)
  have hno : ¬ ((((items.size : Int) - 1) == 0 && (-1 : Int) == 1 && items.size == items.size) = true) := by simp
  show wpAny _ _ (if (((items.size : Int) - 1) == 0 && (-1 : Int) == 1 && items.size == items.size) = true then _ else _) _ _ s
  rw [if_neg hno, rev_pick]
  first
    | exact wpAny_bind (m := Builtin.Tuple.tupleExact _) (wpAny_newObj_type (wpAny_pure ⟨_, rfl, wpAny_pure h⟩) htake)
    | exact wpAny_bind (m := Builtin.Tuple.tupleExact _) (wpAny_newObj_type (wpAny_bind (wpAny_pure (wpAny_pure ⟨_, rfl, wpAny_pure h⟩))) htake)
    | exact wpAny_bind (wpAny_bind (m := Builtin.Tuple.tupleExact _) (wpAny_newObj_type (wpAny_pure (wpAny_pure ⟨_, rfl, wpAny_pure h⟩)) htake))
    | exact wpAny_bind (wpAny_bind (m := Builtin.Tuple.tupleExact _) (wpAny_newObj_type (wpAny_pure ⟨_, rfl, wpAny_pure h⟩) htake))
end
end HT
namespace Tm
open PySem L2 PySem.Spec PyProof.Rows
open Evl (Ex ex_rd ex_l ex_t)
def tRevT (K : PySem.W.Frag) (te : TE) : TE := fun σ H Q => te σ H fun x H1 => ∃ a xs, x = .ref a ∧ ((SqL K H1 a xs ∧ ∀ p, H1 p = none → Q (.ref p) (upd H1 p (.lst xs.reverse))) ∨ (SqT K H1 a xs ∧ ∀ p, H1 p = none → Q (.ref p) (upd H1 p (.tup xs.reverse))))
theorem pe_revT {X : Cx} {e : Expr} {te : TE} {k : Nat} {p1 p2 p3 pos : Pos} (he : PE X e te) : PE X (.Subscript e (.Slice none none (some (.UnaryOp .USub (.Constant (.int 1) k p1) p2)) p3) pos) (tRevT X.K te) := by
  refine ⟨fun pins s σ H Q I h => ?_⟩
  refine Subscript_ (thn (he.run pins s σ H _ I h) fun v s1 ⟨x, H1, I1, r1, q1⟩ => ?_)
  obtain ⟨a, xs, ex, hx⟩ := q1
  subst ex
  cases r1
  have hst : PO X (some (.UnaryOp .USub (.Constant (.int 1) k p1) p2)) (tPart (tUn (rU fun i => .int (-i)) (tC (.int 1)))) := po_some (pe_un un_neg pe_int)
  refine wpAny_Slice (thn (po_none.run pins s1 σ H1 (fun o H2 => o = none ∧ H2 = H1) I1 ⟨rfl, rfl⟩) fun vl s2 ⟨l, H2, I2, pl, el, e2⟩ => ?_)
  subst el e2
  refine thn (po_none.run pins s2 σ H2 (fun o H3 => o = none ∧ H3 = H2) I2 ⟨rfl, rfl⟩) fun vu s3 ⟨u, H3, I3, pu, eu, e3⟩ => ?_
  subst eu e3
  refine thn (hst.run pins s3 σ H3 (fun o H4 => o = some (-1) ∧ H4 = H3) I3 ⟨1, rfl, -1, rfl, rfl, rfl⟩) fun vs s4 ⟨o, H4, I4, ps, eo, e4⟩ => ?_
  subst eo e4
  cases pl
  cases pu
  have I5 : Inv X pins σ H4 { s4 with heap := s4.heap.push { cls := .type "slice", data := .fields #[.none, .none, vs] } } := I4.kept (t' := s4.toks) fun b ob q => Heap.get?_push_of_some _ q
  show wpAny (model X.prog X.w) X.A (subscriptTail e (.Slice none none (some (.UnaryOp .USub (.Constant (.int 1) k p1) p2)) p3) (.ref a) (.ref s4.heap.objs.size)) (EP X pins σ Q) X.xe { s4 with heap := s4.heap.push { cls := .type "slice", data := .fields #[.none, .none, vs] } }
  rcases hx with ⟨hx, q⟩ | ⟨hx, q⟩
  · obtain ⟨its, r, ht, hz⟩ := I5.list hx
    have hlen := r.length
    refine tail_any (ops := [.ref a, .ref s4.heap.objs.size]) ht.isList.typeIs (PySem.slot_list_getitem.lookup) ?_ (by with_unfolding_all rfl)
    refine wpAny_getItem_list_slice ht.isList (Heap.IsSliceOf.new _ _ _ vs) .none .none ps (by decide) ?_ (by rw [List.size_toArray]; omega)
    rw [PySem.W.krv_pick]
    refine ⟨.ref _, _, I5.laid (t' := s4.toks) (o := .lst xs.reverse) (fun b ob q => Heap.get?_push_of_some _ q) (Nat.le_refl _) ?_, rfl, q _ (I5.hok.fresh (Nat.le_refl _))⟩
    exact ⟨by rw [List.length_reverse]; exact hz, _, 0, r.reverse, Heap.get?_push_size _ rfl⟩
  · obtain ⟨its, r, ht, hz⟩ := I5.tuple hx
    have hlen := r.length
    refine tail_any (ops := [.ref a, .ref s4.heap.objs.size]) ht.typeIs (PyProof.Rows.slot_tuple_getitem.lookup) ?_ (by with_unfolding_all rfl)
    refine HT.getItem_tuple_rev ht (Heap.IsSliceOf.new _ _ _ vs) ps ?_ (by rw [List.size_toArray]; omega)
    refine ⟨.ref _, _, I5.laid (t' := s4.toks) (o := .tup xs.reverse) (fun b ob q => Heap.get?_push_of_some _ q) (Nat.le_refl _) ?_, rfl, q _ (I5.hok.fresh (Nat.le_refl _))⟩
    exact ⟨by rw [List.length_reverse]; exact hz, _, r.reverse, IsTup.new _ _⟩
section
variable {X : Cx} {c : Ct}
def fRevA : MV → Option MV
  | .lst xs => some (.lst xs.reverse)
  | .tup xs => some (.tup xs.reverse)
  | _ => none
def mRevA (a : ME) : ME := mUn fRevA a
theorem me_revA {e : Expr} {a : ME} {k : Nat} {p1 p2 p3 pos : Pos} (h : PE X e (rdE c a)) (hK : c.K = X.K := by rfl) : PE X (.Subscript e (.Slice none none (some (.UnaryOp .USub (.Constant (.int 1) k p1) p2)) p3) pos) (rdE c (mRevA a)) :=
  PEw (pe_revT h) fun σ H Q q => by
    obtain ⟨F, Hk, bp, ρ, S, q⟩ := q
    refine rdw (bE postE S q) fun v H1 ⟨Hk1, x, ρ1, x1, S1, r1, h1⟩ => ?_
    cases x with
    | lst xs =>
      obtain ⟨p, vs, rfl, g1, s1⟩ := RV.lst.mp r1
      refine ⟨p, vs, rfl, .inl ⟨SqL.of (S1.1.ex _ _ g1), fun l hl => h1 _ _ _ (Ex.new (S1.1.ex.back hl)) (S1.1.new hl) (RV.lst.mpr ⟨l, _, rfl, upd_same, (s1.reverse).mono (Ex.new (S1.1.ex.back hl))⟩)⟩⟩
    | tup xs =>
      obtain ⟨p, vs, rfl, g1, s1⟩ := RV.tup.mp r1
      refine ⟨p, vs, rfl, .inr ⟨by rw [← hK]; exact ex_t S1.1.ex g1, fun l hl => h1 _ _ _ (Ex.new (S1.1.ex.back hl)) (S1.1.new hl) (RV.tup.mpr ⟨l, _, rfl, SqT.of upd_same, (s1.reverse).mono (Ex.new (S1.1.ex.back hl))⟩)⟩⟩
    | _ => exact h1.elim
end
end Tm
set_option Elab.async false
set_option linter.all false
set_option maxRecDepth 100000
set_option maxHeartbeats 2000000
namespace Tm
open PySem L2 PySem.Spec PyProof.Rows
open Evl (Ex ex_rd ex_l ex_t)
structure Bas (K : PySem.W.Frag) (mg : Str → Option Value) (y : Str) : Prop where
  ex : ∃ CL : Addr, mg y = some (.ref CL) ∧ PySem.W.readsIn K CL (.type "type") = true ∧ PySem.W.specialIn K (.ref CL) "__getattribute__" = some (some (.builtin "type.__getattribute__")) ∧ PySem.W.findCls K (.ref CL) (.type "type") "__init__" = some (.val (.builtin "ValueError.__init__"))
section
variable {X : Cx} {y : Str} {e : Expr} {es : List Expr} {ta : TA} {p1 p2 pos : Pos}
theorem pe_linit {pl : Sem Bool} (hg : Gl X y) (B : Bas X.K X.mg y) (ha : PA X (e :: es) ta)
    (hc : eval (.Call (.Attribute (.Name y p1) "__init__" p2) (e :: es) [] pos) X.env = (do
      let ov ← eval (.Name y p1) X.env
      standAt p2.atName
      let (f, first) ← holding [ov] (getMethod ov "__init__" pl)
      callWith pos f first (backTo pos (starEach (e :: es) X.env)) (backToKw pos (keywordEach [] X.env))) := by rfl)
    (hdb : (y == ("__debug__" : Str)) = false := by decide) (he : starEach (e :: es) X.env = (false, eval e X.env) :: starEach es X.env := by rfl) (hpl : (backTo pos (starEach es X.env)).any (·.1) = false := by rfl) :
    PE X (.Call (.Attribute (.Name y p1) "__init__" p2) (e :: es) [] pos) (tVeI X.K ta) := by
  obtain ⟨CL, hm, hr, hga, hf⟩ := B.ex
  refine ⟨fun pins s σ H Q I h => ?_⟩
  refine PySem.W.methodCall_KW (ld_glob I hg hm ?_ hdb) hc
  refine PySem.W.method_cls I.kIn hga (PySem.W.cls_value I.kIn hr hf (by decide +kernel) ?_)
  show wpAny _ _ (callWith pos (Value.builtin "ValueError.__init__") [] (backTo pos (starEach (e :: es) X.env)) []) _ _ _
  refine PyProof.Rows.callWith_method1 (thn (ha.run pos pins _ σ H _ (I.tok _) h) fun us s1 ⟨vs, H1, I1, r1, a, C, ws, ev, hl, T, ea, q⟩ => ?_) he hpl
  subst ev
  cases r1 with
  | @cons _ u0 _ ur ra rw' =>
    obtain rfl : u0 = Value.ref a := ra
    have hlen : ur.length ≤ sizeLine := by
      rw [← Paired.length rw', sizeLine_eq]
      omega
    exact oinit_ok T I1 ea hlen fun s' J => ⟨.non, H1, J, rfl, q⟩
end
structure OwX (K : PySem.W.Frag) (mg : Str → Option Value) (x : Str) (C fI : Addr) : Prop where
  T : OexC K C
  m : mg x = some (.ref C)
  iC : PySem.W.findIn K (.ref C) "__init__" = some (some (.ref fI))
  tI : PySem.W.typeIn K (.ref fI) = some (.type "function")
def spI1 (K : PySem.W.Frag) (f : Str) : Sp := fun vs H Q _ => ∃ (a C : Addr) (v : V), vs = [.ref a, v] ∧ OexC K C ∧ PySem.W.findIn K (.ref C) f = some none ∧ H a = some (exo a C none) ∧
  ∀ d, H d = none → d ≠ a → Q .non (upd (upd H d (exd d [(f, v)])) a (exo a C (some d)))
def spI2 (K : PySem.W.Frag) (f g : Str) : Sp := fun vs H Q _ => ∃ (a C : Addr) (v w : V), vs = [.ref a, v, w] ∧ OexC K C ∧ PySem.W.findIn K (.ref C) f = some none ∧ PySem.W.findIn K (.ref C) g = some none ∧ H a = some (exo a C none) ∧
  ∀ d, H d = none → d ≠ a → Q .non (upd (upd (upd H d (exd d [(f, v)])) a (exo a C (some d))) d (exd d [(g, w), (f, v)]))
section
variable {P : Program} {w : World} {K : PySem.W.Frag} {mg : Str → Option Value} {base : Heap}
theorem init1 {x qual y f p t : Str} {st : Stmt} {a : Addr} {fd : FuncData} {j : Nat} {p1 p2 p3 p4 p5 p6 q1 q2 q3 q4 : Pos} (F : Fun K x qual st a fd) (S : FnScope ["self", p] ["self", p] (defScope st)) (B : Bas K mg y)
    (hb : defBody st = [.Expr (.Call (.Attribute (.Name y p1) "__init__" p2) [.Name "self" p3, .Constant (.str t) j p4] [] p5) p6, .Assign [.Attribute (.Name "self" q1) f q2] (.Name p q3) q4])
    (hy : ∀ (L : Addr) (cd : Value), (envOfC qual (defScope st) L a cd).kindOf y = some NameKind.globalImplicit) (hs : (defScope st).names.lookup ("self" : Str) = some .local) (hp : (defScope st).names.lookup p = some .local)
    (hc : ∀ env : PySem.Env, ∃ pl : Sem Bool, eval (.Call (.Attribute (.Name y p1) "__init__" p2) [.Name "self" p3, .Constant (.str t) j p4] [] p5) env = (do
      let ov ← eval (.Name y p1) env
      standAt p2.atName
      let (f, first) ← holding [ov] (getMethod ov "__init__" pl)
      callWith p5 f first (backTo p5 (starEach [.Name "self" p3, .Constant (.str t) j p4] env)) (backToKw p5 (keywordEach [] env))))
    (hy1 : (y == ("__debug__" : Str)) = false) (hp1 : (p == ("__debug__" : Str)) = false) (hp2 : (p == ("__classdict__" : Str)) = false) :
    FnOk P w K mg base (L2N.CX P w) 2 a fd ["self", p] (spI1 K f) := by
  refine okXN F S (fun vs H Q E h => ?_) (fun cdv A outer s H vs Q E hr h => ?_)
  · obtain ⟨_, _, _, rfl, _⟩ := h
    rfl
  obtain ⟨b, C, v, rfl, T, hf, hH, hq⟩ := h
  have nd := S.nd
  have hself : PE (cxOf (L2N.CX P w) P w K mg base ["self", p] qual (defScope st) a cdv A outer s H E) (.Name "self" p3) (tVar 0) := pe_var (i := 0) rfl (.inl hs)
  have hself2 : PE (cxOf (L2N.CX P w) P w K mg base ["self", p] qual (defScope st) a cdv A outer s H E) (.Name "self" q1) (tVar 0) := pe_var (i := 0) rfl (.inl hs)
  have hpar : PE (cxOf (L2N.CX P w) P w K mg base ["self", p] qual (defScope st) a cdv A outer s H E) (.Name p q3) (tVar 1) := pe_var (i := 1) rfl (.inl hp) hp1 hp2
  obtain ⟨pl, hc⟩ := hc (cxOf (L2N.CX P w) P w K mg base ["self", p] qual (defScope st) a cdv A outer s H E).env
  have h1 := pe_linit (pl := pl) (e := .Name "self" p3) (es := [.Constant (.str t) j p4]) (pos := p5) (p1 := p1) (p2 := p2) (X := cxOf (L2N.CX P w) P w K mg base ["self", p] qual (defScope st) a cdv A outer s H E) (y := y) (hy _ _) B (pa_cons hself (pa_cons pe_str pa_nil)) (hc := hc) (hdb := hy1)
  refine ⟨_, by rw [hb]; exact pss_cons (ps_expr h1) (pss_cons (ps_ost hself2 hpar) pss_nil), ?_⟩
  exact ⟨.ref b, rfl, b, C, [.str t], rfl, by simp, T, hH, v, rfl, .ref b, rfl, b, C, rfl, T, hf, .inl ⟨hH, fun dx h1 h2 => hq dx h1 h2⟩⟩
end
section
variable {X : Cx} {e : Expr} {es : List Expr} {ta : TA} {p pos : Pos}
theorem pmk_oexN {CX : CXT} {x : Str} {C fI : Addr} {k : Nat} {fd : FuncData} {ps : List Str} {sp : Sp} {ds : List Value} {dvs : List V} (T : OexC X.K C) (iC : PySem.W.findIn X.K (.ref C) "__init__" = some (some (.ref fI))) (tI : PySem.W.typeIn X.K (.ref fI) = some (.type "function"))
    (F1 : FnOk X.prog X.w X.K X.mg X.base CX k fI fd ps sp) (hr : Room (k + 1) X.A) (hb : L2.Binds X.K fd ps ds) (hd : Vals dvs ds) (hx : Passes CX X (fun _ _ _ => False)) (hg : Gl X x) (hm : X.mg x = some (.ref C)) (ha : PA X (e :: es) ta)
    (hdb : (x == ("__debug__" : Str)) = false := by decide) (he : starEach (e :: es) X.env = (false, eval e X.env) :: starEach es X.env := by rfl) (hpl : (backTo pos (starEach es X.env)).any (·.1) = false := by rfl) :
    L2N.PMk X (.Call (.Name x p) (e :: es) [] pos) (tMkO C sp dvs ta) := fun pins s σ H Q I h => by
  obtain ⟨_, _, _, _, bm, _, _, _, _, _, _, _, _, _, _, look, hbm⟩ := T.cls
  refine wpAny_Call_Name_kw (ld_glob I hg hm ?_ hdb)
  refine PySem.W.callWith_K (h₀ := X.base) I.ok.mod.kin T.kC (thn (ha.run pos pins s σ H _ I h) fun us s1 q0 => ⟨q0.choose_spec.choose_spec.1.kIn, ?_⟩) he hpl
  obtain ⟨vs, G, J, r, hz, q⟩ := q0
  show wpAny _ _ (call (.ref C) us) _ _ _
  obtain ⟨hp, gs, dr, tk, os⟩ := s1
  obtain ⟨n, hn⟩ : ∃ n, hp.objs.size = n := ⟨_, rfl⟩
  have le1 : hp.objs.size ≤ n + 1 := by omega
  have sp1 := q (n + 1) (J.hok.fresh le1)
  have keep : ∀ b o, hp.get? b = some o → ((hp.push (PySem.W.kdv_tup us)).push (PySem.HandSPX.excO C n)).get? b = some o := fun b o z => Heap.get?_push_of_some _ (Heap.get?_push_of_some _ z)
  have there : ((hp.push (PySem.W.kdv_tup us)).push (PySem.HandSPX.excO C n)).get? (n + 1) = some (PySem.HandSPX.excO C n) := by subst hn; heap_get
  have J2 : Inv X pins σ (upd G (n + 1) (exo (n + 1) C none)) ⟨(hp.push (PySem.W.kdv_tup us)).push (PySem.HandSPX.excO C n), gs, dr, tk, os⟩ :=
    J.laid (t' := tk) (a := n + 1) (o := exo (n + 1) C none) (h' := (hp.push (PySem.W.kdv_tup us)).push (PySem.HandSPX.excO C n)) keep le1 (exo_ok there)
  have r2 : Vals (V.ref (n + 1) :: (vs ++ dvs)) (Value.ref (n + 1) :: (us ++ ds)) := .cons rfl (r.append hd)
  have len2 : (Value.ref (n + 1) :: us ++ ds).length = ps.length := (F1.len _ _ _ _ sp1 ▸ r2.length).symm
  have small : us.length ≤ sizeLine := by
    have := Paired.length r
    rw [sizeLine_eq]; omega
  subst hn
  refine wpAny_call (PySem.HandSPX.call_own F.excBase_ValueError (fun Y => PySem.HandSPX.refsVE_contains Y bm hbm) (J.kIn _ _ look) (PySem.W.looks_findIn J.kIn iC) (fun self => PySem.W.bind_fn J.kIn self tI) small (codeAny_mono
    (F1.run _ X.stack _ _ ⟨Value.ref (hp.objs.size + 1) :: us, []⟩ (Value.ref (hp.objs.size + 1) :: (us ++ ds)) _ _ (fun _ _ _ => False) (hr.make C us []) (J2.env0.make C us []) (hb _ (Value.ref (hp.objs.size + 1) :: us) J2.kIn len2) r2 sp1) fun z s' hq => ?_))
  match z, hq with
  | .error er, hq => exact hx pins σ _ _ er s' J2 hq
  | .ok (.ret u), hq =>
    obtain ⟨v, G2, o2, b2, un2, ok2, rv, rfl, d, fs, ea, ed, hd1, w⟩ := hq
    obtain ⟨h2, g2, d2, t2, _⟩ := s'
    obtain ⟨t0, B, JB, kB, gB, at2, na⟩ := mk_end0 (d2 := d2) (t2 := t2) J le1 keep un2 ok2 o2 b2 ea ed hd1
    exact ⟨rv, ⟨_, _, _, ⟨B, g2, d2, t2, _⟩, _, .ref C, some d, rfl, JB, kB, gB, at2, ⟨rfl, rfl, fun vs hv => by cases hv; rfl⟩, rfl, rfl, na, rfl, b2, raises_own T.exC T.tyC, w⟩⟩
  | .ok .next, hq => exact hq.elim
  | .ok .brk, hq => exact hq.elim
  | .ok .cont, hq => exact hq.elim
end
theorem made_heap {H1 : Hp} {a d : Addr} {o u z : HO} (ha : H1 a = none) (hd : d ≠ a) : upd (del (upd (upd (upd H1 a o) d u) a z) a) d = upd H1 d := by
  funext y b
  by_cases e1 : b = d
  · subst e1; rw [upd_same, upd_same]
  · rw [upd_ne e1, upd_ne e1]
    by_cases e2 : b = a
    · subst e2; rw [del_same, ha]
    · rw [del_ne e2, upd_ne e2, upd_ne e1, upd_ne e2]
section
variable {X : Cx} {c : Ct} {x f g : Str} {C fI : Addr} {k : Nat} {fd : FuncData} {ps : List Str} {W : WX}
theorem never {W : WX} (tk : L2N.Takes X W) : Passes (L2N.CX X.prog X.w) X (fun _ _ _ => False) := L2N.passes_call (E := fun _ _ _ => False) tk fun _ _ _ _ z => z.elim
def tMk1 (C : Addr) (f : Str) (ta : TA) : L2.St → Hp → XK → Prop := fun σ H Q => ta σ H fun vs H1 => ∃ v, vs = [v] ∧ ∀ d, H1 d = none → Q (.ref C) (some d) (upd H1 d (.xd [(f, v)]))
theorem pmk1 {e : Expr} {es : List Expr} {ta : TA} {p pos : Pos} (O : OwX X.K X.mg x C fI) (hf : PySem.W.findIn X.K (.ref C) f = some none) (F1 : FnOk X.prog X.w X.K X.mg X.base (L2N.CX X.prog X.w) k fI fd ps (spI1 X.K f)) (hr : Room (k + 1) X.A) (hb : L2.Binds X.K fd ps []) (tk : L2N.Takes X W) (hg : Gl X x) (ha : PA X (e :: es) ta)
    (hm : ∀ σ H Q Q', ta σ H Q → (∀ vs H1, Q vs H1 → Q' vs H1) → ta σ H Q')
    (hdb : (x == ("__debug__" : Str)) = false := by decide) (he : starEach (e :: es) X.env = (false, eval e X.env) :: starEach es X.env := by rfl) (hpl : (backTo pos (starEach es X.env)).any (·.1) = false := by rfl) :
    L2N.PMk X (.Call (.Name x p) (e :: es) [] pos) (tMk1 C f ta) := by
  have z := pmk_oexN (p := p) (ds := []) (dvs := []) O.T O.iC O.tI F1 hr hb .nil (never tk) hg O.m ha hdb he hpl
  intro pins s σ H Q I h
  refine z pins s σ H Q I (hm σ H _ _ h fun vs H1 ⟨v, ev, q⟩ => ?_)
  subst ev
  refine ⟨by simp, fun a ha => ⟨a, C, v, rfl, O.T, hf, upd_same, fun d hd hne => ⟨rfl, d, [(f, v)], upd_same, ?_, ?_, ?_⟩⟩⟩
  · rw [upd_ne hne, upd_same]
  · rw [upd_ne hne] at hd; exact hd
  · rw [made_heap ha hne]
    exact q d (by rw [upd_ne hne] at hd; exact hd)
end
end Tm
set_option Elab.async false
set_option linter.all false
set_option maxRecDepth 100000
set_option maxHeartbeats 2000000
namespace Tm
open PySem L2 PySem.Spec PyProof.Rows
open Evl (Ex ex_rd ex_l ex_t)
def NoX (H H' : Hp) : Prop := ∀ a o, H a = some o → (∀ fs, o ≠ .xd fs) → H' a = some o
theorem NoX.rdl {H H' : Hp} (e : NoX H H') {a : Addr} {xs : List V} (h : Rd H a (.lst xs)) : Rd H' a (.lst xs) := by
  rcases h with h | ⟨o, h⟩
  · exact Or.inl (e a _ h (fun _ z => nomatch z))
  · exact Or.inr ⟨o, e a _ h (fun _ z => nomatch z)⟩
theorem NoX.rdt {H H' : Hp} (e : NoX H H') {a : Addr} {xs : List V} (h : Rd H a (.tup xs)) : Rd H' a (.tup xs) := by
  rcases h with h | ⟨o, h⟩
  · exact Or.inl (e a _ h (fun _ z => nomatch z))
  · exact Or.inr ⟨o, e a _ h (fun _ z => nomatch z)⟩
mutual
theorem RV.sub {K : PySem.W.Frag} {H H' : Hp} (e : NoX H H') : ∀ (x : MV) (v : V), RV K H x v → RV K H' x v
  | .non, v, h => by unfold RV at h ⊢; exact h
  | .bl b, v, h => by unfold RV at h ⊢; exact h
  | .int i, v, h => by unfold RV at h ⊢; exact h
  | .str x, v, h => by unfold RV at h ⊢; exact h
  | .tup xs, v, h => by
    unfold RV at h ⊢
    obtain ⟨a, vs, e1, e2, e3⟩ := h
    exact ⟨a, vs, e1, e2.imp e.rdt id, RVs.sub e xs vs e3⟩
  | .lst xs, v, h => by
    unfold RV at h ⊢
    obtain ⟨a, vs, e1, e2, e3⟩ := h
    exact ⟨a, vs, e1, e _ _ e2 (fun _ z => nomatch z), RVs.sub e xs vs e3⟩
  | .own xs, v, h => by unfold RV at h; exact h.elim
  | .raw w, v, h => by unfold RV at h ⊢; exact h
  | .scr ns, v, h => by
    unfold RV at h ⊢
    obtain ⟨a, e1, e2⟩ := h
    exact ⟨a, e1, e2.imp e.rdl id⟩
  | .fnc x, v, h => by unfold RV at h ⊢; exact h
  | .obj C fs, v, h => by unfold RV at h; exact h.elim
  | .dct ks xs, v, h => by
    unfold RV at h ⊢
    obtain ⟨a, vs, e1, e2, e3, e4⟩ := h
    exact ⟨a, vs, e1, e _ _ e2 (fun _ z => nomatch z), e3, RVs.sub e xs vs e4⟩
  | .dow ks xs, v, h => by unfold RV at h; exact h.elim
  | .dot ks xs, v, h => by unfold RV at h; exact h.elim
  | .ols os, v, h => by unfold RV at h; exact h.elim
  | .exn C fs, v, h => by
    unfold RV at h ⊢
    obtain ⟨a, CA, d, h1, h2, h3, h4⟩ := h
    refine ⟨a, CA, d, h1, h2, e _ _ h3 (fun _ z => nomatch z), ?_⟩
    rcases h4 with h4 | ⟨dx, h5, h6⟩
    · exact .inl h4
    · exact .inr ⟨dx, h5, e _ _ h6 (fun _ z => nomatch z)⟩
theorem RVs.sub {K : PySem.W.Frag} {H H' : Hp} (e : NoX H H') : ∀ (xs : List MV) (vs : List V), RVs K H xs vs → RVs K H' xs vs
  | [], vs, h => by unfold RVs at h ⊢; exact h
  | x :: xs, vs, h => by
    unfold RVs at h ⊢
    obtain ⟨v, r, e1, e2, e3⟩ := h
    exact ⟨v, r, e1, RV.sub e x v e2, RVs.sub e xs r e3⟩
end
theorem KN.sub {K : PySem.W.Frag} {Hk Hk' : Hp} (e : NoX Hk Hk') : ∀ {ks xs : List MV} {l : List (NestedKey × Addr × V)}, KN K Hk ks xs l → KN K Hk' ks xs l
  | [], [], _, h => h
  | [], _ :: _, _, h => h.elim
  | _ :: _, [], _, h => h.elim
  | k :: ks, x :: xs, _, h => by
    obtain ⟨nk, a, v, r, h1, h2, h3, h4, h5, h6⟩ := h
    exact ⟨nk, a, v, r, h1, h2, h3, RV.sub e _ _ h4, RV.sub e _ _ h5, KN.sub e h6⟩
theorem OF.sub {K : PySem.W.Frag} {Hk Hk' H : Hp} {x : MV} {v : V} {A : List Addr} (e : NoX Hk Hk') (h : OF K Hk H x v A) : OF K Hk' H x v A := by
  cases x with
  | own xs =>
    unfold OF at h ⊢
    obtain ⟨p, vs, e1, e2, e3, e4⟩ := h
    exact ⟨p, vs, e1, e2, e3, RVs.sub e _ _ e4⟩
  | dow ks xs =>
    unfold OF at h ⊢
    obtain ⟨p, vs, e1, e2, e3, e5, e4⟩ := h
    exact ⟨p, vs, e1, e2, e3, e5, RVs.sub e _ _ e4⟩
  | dot ks xs =>
    unfold OF at h ⊢
    obtain ⟨p, l, e1, e2, e3, e4⟩ := h
    exact ⟨p, l, e1, e2, e3, KN.sub e e4⟩
  | obj C fs => exact (show False by unfold OF at h; unfold RV at h; exact h.2).elim
  | _ =>
    unfold OF at h ⊢
    exact ⟨h.1, RV.sub e _ _ h.2⟩
theorem OFs.sub {K : PySem.W.Frag} {Hk Hk' H : Hp} (e : NoX Hk Hk') : ∀ {fs : List (Str × MV)} {vs : List (Str × V)} {A : List Addr}, OFs K Hk H fs vs A → OFs K Hk' H fs vs A
  | [], _, _, h => h
  | (n, x) :: fs, vs, A, h => by
    obtain ⟨v, r, B, C, e1, e2, h1, h2⟩ := h
    exact ⟨v, r, B, C, e1, e2, h1.sub e, OFs.sub e h2⟩
theorem OB.sub {K : PySem.W.Frag} {Hk Hk' H : Hp} {x : MV} {v : V} {A : List Addr} (e : NoX Hk Hk') (h : OB K Hk H x v A) : OB K Hk' H x v A := by
  cases x with
  | obj C fs =>
    unfold OB at h ⊢
    obtain ⟨p, CA, dx, vfs, B, e1, e2, e0, e3, e4, e5⟩ := h
    exact ⟨p, CA, dx, vfs, B, e1, e2, e0, e3, OFs.sub e e4, e5⟩
  | own xs =>
    unfold OB at h ⊢
    obtain ⟨p, vs, e1, e2, e3, e4⟩ := h
    exact ⟨p, vs, e1, e2, e3, RVs.sub e _ _ e4⟩
  | _ => exact (show False by unfold OB at h; exact h).elim
theorem OBs.sub {K : PySem.W.Frag} {Hk Hk' H : Hp} (e : NoX Hk Hk') : ∀ {xs : List MV} {vs : List V} {A : List Addr}, OBs K Hk H xs vs A → OBs K Hk' H xs vs A
  | [], _, _, h => h
  | x :: xs, vs, A, h => by
    obtain ⟨v, r, B, C, e1, e2, h1, h2⟩ := h
    exact ⟨v, r, B, C, e1, e2, h1.sub e, OBs.sub e h2⟩
theorem OV.sub {K : PySem.W.Frag} {Hk Hk' H : Hp} {x : MV} {v : V} {A : List Addr} (e : NoX Hk Hk') (h : OV K Hk H x v A) : OV K Hk' H x v A := by
  cases x with
  | obj C fs =>
    unfold OV at h ⊢
    obtain ⟨p, CA, dx, vfs, B, e1, e2, e0, e3, e4, e5⟩ := h
    exact ⟨p, CA, dx, vfs, B, e1, e2, e0, e3, OFs.sub e e4, e5⟩
  | ols os =>
    unfold OV at h ⊢
    obtain ⟨p, vs, B, e1, e2, e3, e4, e5⟩ := h
    exact ⟨p, vs, B, e1, e2, e3, e4.sub e, e5⟩
  | _ => (unfold OV at h ⊢; exact OF.sub e h)
section
variable {K : PySem.W.Frag} {F Hk H : Hp} {bp : List (Nat × Addr)} {σ : L2.St} {ρ : Env}
theorem RS.less (S : RS K F Hk H (p :: bp) σ ρ) : RS K F Hk H bp σ ρ := ⟨S.len, S.ex, S.fr, S.frk, S.ow, fun q hq => S.bor q (List.mem_cons_of_mem _ hq)⟩
end
theorem RV.flat {K K' : PySem.W.Frag} {H H' : Hp} {x : MV} {v : V} (f : flatM x = true) (h : RV K H x v) : RV K' H' x v := by
  cases x <;> first | (simp [flatM] at f; done) | (unfold RV at h ⊢; exact h)
theorem XFs.flat {K K' : PySem.W.Frag} {H H' : Hp} : ∀ {xs : List (Str × MV)} {vs : List (Str × V)}, xs.all (fun p => flatM p.2) = true → XFs K H xs vs → XFs K' H' xs vs
  | [], _, _, h => h
  | (n, x) :: xs, vs, f, h => by
    obtain ⟨v, r, e1, e2, e3⟩ := h
    simp only [List.all_cons, Bool.and_eq_true] at f
    exact ⟨v, r, e1, e2.flat f.1, XFs.flat f.2 e3⟩
structure ExT (K : PySem.W.Frag) (mg : Str → Option Value) (y : Str) (x : Str) (b : Bool) : Prop where
  ex : ∃ C D, mg x = some (.ref C) ∧ mg y = some (.ref D) ∧ PySem.W.exmOne K (.ref C) (.ref D) = some b
def XIn (F : Hp) (e : MX) (d : Option Addr) : Prop := (e.fs = [] ∧ d = none) ∨ ∃ dx vfs, d = some dx ∧ F dx = some (.xd vfs) ∧ ∀ K H, XFs K H e.fs vfs
def cH (c : Ct) (i : Nat) (a : Addr) (e : MX) (d : Option Addr) : Ct := ⟨c.K, c.mg, fun _ _ _ _ => False, i :: c.bs, fun F bp => (∃ bq, bp = (i, a) :: bq ∧ c.J F bq) ∧ XIn F e d, fun F F1 bp x h => by
  obtain ⟨⟨bq, e1, e2⟩, h2⟩ := h
  refine ⟨⟨bq, e1, c.Jm _ _ _ x e2⟩, ?_⟩
  rcases h2 with h2 | ⟨dx, vfs, q1, q2, q3⟩
  · exact .inl h2
  · exact .inr ⟨dx, vfs, q1, x _ _ q2, q3⟩⟩
end Tm
set_option Elab.async false
set_option linter.all false
set_option maxRecDepth 100000
set_option maxHeartbeats 2000000
namespace Tm
open PySem L2 PySem.Spec PyProof.Rows
open Evl (Ex ex_rd ex_l ex_t)
def mRaise1 (x f : Str) (a : ME) : MS := fun ρ => (a ρ).bind fun y ρ1 => .exc ⟨x, [(f, y)]⟩ ρ1
structure Cl0 (K : PySem.W.Frag) (mg : Str → Option Value) (x : Str) : Prop where
  ex : ∃ C, mg x = some (.ref C) ∧ PySem.W.excIn K C PySem.HandSPX.veTail "ValueError.__new__" = true ∧ PySem.W.keepIn K (.ref C) = true ∧ PySem.W.subIn K (.ref C) (.type "BaseException") = some true ∧ PySem.W.typeIn K (.ref C) = some (.type "type")
structure Cl1 (P : Program) (w : World) (K : PySem.W.Frag) (mg : Str → Option Value) (base : Heap) (x f : Str) : Prop where
  ex : ∃ C fI fd ps, OwX K mg x C fI ∧ PySem.W.findIn K (.ref C) f = some none ∧ FnOk P w K mg base (L2N.CX P w) 2 fI fd ps (spI1 K f) ∧ L2.Binds K fd ps []
structure Cl2 (P : Program) (w : World) (K : PySem.W.Frag) (mg : Str → Option Value) (base : Heap) (x f g : Str) : Prop where
  ex : ∃ C fI fd ps, OwX K mg x C fI ∧ PySem.W.findIn K (.ref C) f = some none ∧ PySem.W.findIn K (.ref C) g = some none ∧ FnOk P w K mg base (L2N.CX P w) 2 fI fd ps (spI2 K f g) ∧ L2.Binds K fd ps []
section
variable {X : Cx} {c : Ct} {x f g m : Str} {k j : Nat}
theorem ms_raise1 {e : Expr} {a : ME} {p p2 pos : Pos} (Z : Cl1 X.prog X.w X.K X.mg X.base x f) (hc : X.calm = true) (hr : Room k X.A) (hk : 3 ≤ k) (tk : L2N.Takes X c.W) (hg : Gl X x) (he : PE X e (rdE c a)) (hmg : c.mg = X.mg := by rfl)
    (hdb : (x == ("__debug__" : Str)) = false := by decide) (hst : starEach [e] X.env = (false, eval e X.env) :: starEach [] X.env := by rfl) (hpl : (backTo p2 (starEach [] X.env)).any (·.1) = false := by rfl) :
    PS X (.Raise (some (.Call (.Name x p) [e] [] p2)) none pos) (rdS c (mRaise1 x f a)) := by
  obtain ⟨C, fI, fd, ps, O, h2, h3, h4⟩ := Z.ex
  refine PSw (L2N.ps_raise hc tk (pmk1 (W := c.W) O h2 h3 (hr.mono hk) h4 tk hg (ma_cons he ma_nil hst) (fun σ H Q Q' q w => rdAw q w) hdb hst hpl)) fun D σ H ⟨F, Hk, bp, ρ, S, h⟩ => ?_
  have h : okS c F Hk bp D ((a ρ).bind fun y ρ1 => .exc ⟨x, [(f, y)]⟩ ρ1) := h
  refine ⟨F, Hk, bp, ρ, S, ?_⟩
  show okA c F Hk bp σ _ ((a ρ).bind fun y ρ1 => (mNil ρ1).bind fun xs ρ2 => .ok (y :: xs, ρ2))
  cases ea : a ρ with
  | stuck => rw [ea] at h; exact h
  | exc e ρ' => rw [ea] at h; exact fun Hk' H' cls d => h Hk' H' σ cls d
  | ok q =>
    obtain ⟨y, ρ1⟩ := q
    rw [ea] at h
    intro Hk1 H1 vs x1 S1 r1
    obtain ⟨v, us, rfl, r2, r3⟩ := RVs.cons.mp r1
    cases RVs.nil.mp r3
    refine ⟨v, rfl, fun d hd => ?_⟩
    have xn := Ex.new (o := HO.xd [(f, v)]) (S1.ex.back hd)
    exact h _ _ _ _ _ (x1.trans xn) (S1.new hd) ⟨C, by rw [hmg]; exact O.m, rfl, .inr ⟨d, _, rfl, upd_same, v, [], rfl, r2.mono xn, rfl⟩⟩
end
theorem XFs.look {K : PySem.W.Frag} {H : Hp} {f : Str} {x : MV} : ∀ {xs : List (Str × MV)} {vs : List (Str × V)}, XFs K H xs vs → xs.lookup f = some x → ∃ v, vs.lookup f = some v ∧ RV K H x v
  | [], _, _, h => by simp at h
  | (n, y) :: xs, vs, r, h => by
    obtain ⟨v, rr, e1, e2, e3⟩ := r
    subst e1
    rw [List.lookup_cons] at h ⊢
    cases eq : f == n with
    | true => rw [eq] at h; cases h; exact ⟨v, rfl, e2⟩
    | false => rw [eq] at h; exact XFs.look e3 h
def xcB (K : PySem.W.Frag) (C : Addr) (fs : List Str) : Bool := xfB K C && decide (PySem.W.findIn K (.ref C) "__class__" = some (some (.builtin "object.__class__"))) && decide (PySem.W.specialIn K (.builtin "object.__class__") "__get__" = some (some (.builtin "getset_descriptor.__get__"))) && decide (PySem.W.takesIn K (.builtin "object.__class__") = some true) && decide (PySem.W.mroIn K C (.type "object") = some true) && fs.all (fun f => decide (PySem.W.findIn K (.ref C) f = some none))
structure XcF (K : PySem.W.Frag) (mg : Str → Option Value) (fs : List Str) (x : Str) : Prop where
  ex : ∃ C, mg x = some (.ref C) ∧ xcB K C fs = true
structure KiT (K : PySem.W.Frag) (mg : Str → Option Value) (y x : Str) (b : Bool) : Prop where
  ex : ∃ C D, mg x = some (.ref C) ∧ mg y = some (.ref D) ∧ PySem.W.kitOne K (.ref C) (.ref D) = some b
structure XcG (K : PySem.W.Frag) (C : Addr) (fs : List Str) : Prop where
  xf : XfC K C
  xc : ExcC K C
  no : ∀ f ∈ fs, PySem.W.findIn K (.ref C) f = some none
def inCls (s : Stmt) (j : Nat) : Stmt := match s with
  | .ClassDef _ _ _ b _ _ _ _ _ _ _ => b.getD j (.Pass ⟨0, 0, 0, 0⟩)
  | _ => .Pass ⟨0, 0, 0, 0⟩
theorem owX_mk {K : PySem.W.Frag} {mg : Str → Option Value} {x : Str} {C fI : Addr} {nm q : Str} {N : Addr} {bs bm : List Value} {sn : List Str} {sub : List Value} {ab : Bool} {col : Option Bool} {dd : Option Addr} {k0 k1 k2 k3 k5 : Option Value}
    (m : mg x = some (.ref C)) (l : K.lookup C = some (excClassObj nm q C N bs bm true sn sub ab col dd k0 k1 k2 k3 k5 "ValueError.__new__")) (r : PySem.HandSPX.refsVE bm = true) (sa : PySem.W.findIn K (.ref C) "__setattr__" = some (some (.builtin "object.__setattr__")))
    (eC : PySem.W.subIn K (.ref C) (.type "BaseException") = some true) (tC : PySem.W.typeIn K (.ref C) = some (.type "type")) (kC : PySem.W.keepIn K (.ref C) = true) (iC : PySem.W.findIn K (.ref C) "__init__" = some (some (.ref fI))) (tI : PySem.W.typeIn K (.ref fI) = some (.type "function")) : OwX K mg x C fI :=
  ⟨⟨⟨nm, q, N, bs, bm, sn, sub, ab, col, dd, k0, k1, k2, k3, k5, l, r⟩, sa, eC, tC, kC⟩, m, iC, tI⟩
end Tm
set_option Elab.async false
set_option linter.all false
set_option maxRecDepth 100000
set_option maxHeartbeats 2000000
namespace Tm
open PySem L2
open Evl (Ex ex_rd ex_l ex_t)
def fAddL : MV → MV → Option (List MV)
  | .lst a, .lst b => if szOk (a.length + b.length) then some (a ++ b) else none
  | _, _ => none
def mOpO (f : MV → MV → Option (List MV)) (a b : ME) : ME := fun ρ => (a ρ).bind fun x ρ1 => (b ρ1).bind fun y ρ2 => match f x y with
  | some zs => .ok (.own zs, ρ2)
  | none => .stuck
section
variable {X : Cx} {c : Ct} {a b : Expr} {ma mb : ME} {pos : Pos}
def OpN (K : PySem.W.Frag) (f : MV → MV → Option (List MV)) (r : R2) : Prop := ∀ (x y : MV) (zs : List MV) (v w : V) (Hk H : Hp) (Q : VK), f x y = some zs → Ex Hk H → RV K Hk x v → RV K Hk y w →
  (∀ p vs, H p = none → RVs K Hk zs vs → Q (.ref p) (upd H p (.lst vs))) → r v w H Q
theorem mo_op {op : Operator} {f : MV → MV → Option (List MV)} {r : R2} (hop : OpR X (binaryOp op) r) (o : OpN c.K f r) (ha : PE X a (rdE c ma)) (hb : PE X b (rdE c mb)) : PE X (.BinOp a op b pos) (rdO c (mOpO f ma mb)) :=
  PEw (pe_op hop ha hb) fun σ H Q h => by
    obtain ⟨F, Hk, bp, ρ, S, h⟩ := h
    refine rdw (bE postO S h) fun v H1 ⟨Hk1, x, ρ1, x1, S1, r1, h1⟩ => ?_
    refine rdw (bE postO S1 h1) fun w H2 ⟨Hk2, y, ρ2, x2, S2, r2, h2⟩ => ?_
    split at h2
    · rename_i zs e
      exact o x y zs v w Hk2 H2 Q e S2.1.ex (RV.mono x2 _ _ r1) r2 fun p vs hp rv => h2 _ _ _ (Ex.refl _) (S2.1.pushOwn hp rv)
    · exact h2.elim
theorem on_add {K : PySem.W.Frag} : OpN K fAddL (rAddM K) := by
  intro x y zs v w Hk H Q e ex r1 r2 q
  unfold fAddL at e
  split at e
  · split at e
    · rename_i a b h
      cases e
      obtain ⟨p1, vs, rfl, h1, s1⟩ := RV.lst.mp r1
      obtain ⟨p2, ws, rfl, h2, s2⟩ := RV.lst.mp r2
      refine .inr (.inr (.inr (.inl ⟨p1, p2, vs, ws, rfl, rfl, ex _ _ h1, ex _ _ h2, ?_, fun p hp => q p _ hp (s1.append s2)⟩)))
      rw [s1.length, s2.length]; exact szOk_iff.mp h
    · cases e
  · cases e
theorem mo_add (ha : PE X a (rdE c ma)) (hb : PE X b (rdE c mb)) (hK : c.K = X.K := by rfl) : PE X (.BinOp a .Add b pos) (rdO c (mOpO fAddL ma mb)) := mo_op op_addM (by rw [← hK]; exact on_add) ha hb
end
end Tm
set_option Elab.async false
set_option linter.all false
set_option maxRecDepth 100000
set_option maxHeartbeats 2000000
namespace Tm
open PySem L2
open Evl (Ex ex_rd ex_l ex_t)
def mWhileN : Nat → MT → MS → MS
  | 0, _, _ => fun _ => .stuck
  | n + 1, t, b => fun ρ => (t ρ).bind fun k ρ1 => if k then ((b ρ1).bind fun f ρ2 => match f with
    | .nx => mWhileN n t b ρ2
    | .ct => mWhileN n t b ρ2
    | .br => .ok (.nx, ρ2)
    | .rt v => .ok (.rt v, ρ2)) else .ok (.nx, ρ1)
section
variable {X : Cx} {c : Ct} {pos : Pos} {t : MT} {b : MS}
theorem okS.wl {F Hk : Hp} {bp : List (Nat × Addr)} {D : Ends} {n : Nat} {N : St → Hp → Prop} (hN : ∀ Hk' H' σ' ρ', Ex Hk Hk' → RS c.K F Hk' H' bp σ' ρ' → okS c F Hk' bp D (mWhileN n t b ρ') → N σ' H') {r : Res (Fl × Env)}
    (h : okS c F Hk bp D (r.bind fun f ρ2 => match f with | .nx => mWhileN n t b ρ2 | .ct => mWhileN n t b ρ2 | .br => .ok (.nx, ρ2) | .rt v => .ok (.rt v, ρ2))) : okS c F Hk bp { D with nx := N, ct := N, bk := D.nx } r := by
  cases r with
  | stuck => exact h
  | exc e ρ => exact h
  | ok q =>
    obtain ⟨f, ρ1⟩ := q
    cases f with
    | nx => exact fun Hk1 H1 σ1 x1 S1 => hN Hk1 H1 σ1 ρ1 x1 S1 (okS.mono x1 h)
    | ct => exact fun Hk1 H1 σ1 x1 S1 => hN Hk1 H1 σ1 ρ1 x1 S1 (okS.mono x1 h)
    | br => exact h
    | rt x => exact h
end
end Tm
set_option Elab.async false
set_option linter.all false
set_option maxRecDepth 100000
set_option maxHeartbeats 2000000
namespace Tm
open PySem L2
open Evl (Ex ex_rd ex_l ex_t)
section
variable {X : Cx} {c : Ct} {p p2 pos : Pos} {x : Str} {i : Nat}
def lenV (ρ : Env) (i : Nat) : Option MV := match ρ[i]? with
  | some (some (.own xs)) => some (.int xs.length)
  | some (some x) => bLen [x]
  | _ => none
def mLenV (i : Nat) : ME := fun ρ => match lenV ρ i with | some z => .ok (z, ρ) | none => .stuck
theorem bLen_per {x z : MV} (h : bLen [x] = some z) : x.per = true := by
  cases x <;> first | rfl | cases h
theorem me_lenV (hm : X.mg "len" = none) (hN : X.N[i]? = some x) (hv : Vis X.env.scope x) (hg : Gl X "len" := by rfl) (hK : c.K = X.K := by rfl) (hd : (x == ("__debug__" : Str)) = false := by decide) (hcd : (x == ("__classdict__" : Str)) = false := by decide)
    (he : starEach [Expr.Name x p] X.env = (false, eval (.Name x p) X.env) :: starEach [] X.env := by rfl) (hpl : (backTo pos (starEach [] X.env)).any (·.1) = false := by rfl) : PE X (.Call (.Name "len" p2) [.Name x p] [] pos) (rdE c (mLenV i)) :=
  PEw (pe_callB cr_lenM hg hm (by decide +kernel) (pa_cons (pe_var hN hv hd hcd) pa_nil he) (by decide) (by decide) he hpl) fun σ H Q h => by
    obtain ⟨F, Hk, bp, ρ, S, h⟩ := h
    unfold mLenV at h
    cases e : lenV ρ i with
    | none => rw [e] at h; exact h.elim
    | some z =>
      rw [e] at h
      unfold lenV at e
      split at e
      · rename_i xs hx
        cases e
        obtain ⟨q, vs, e1, e2, e3, e4, e5⟩ := S.1.getOwn hx
        refine ⟨_, e1, ?_⟩
        rw [← hK]
        exact .inl ⟨q, vs, rfl, .inl (SqL.of e2), by rw [e3.length]; exact h _ _ _ (Ex.refl _) S.1 (RV.int.mpr rfl)⟩
      · rename_i x n hx
        have px := bLen_per e
        obtain ⟨w, e1, r1⟩ := S.1.get hx px
        refine ⟨w, e1, ?_⟩
        rw [← hK]
        exact cs_len [x] z [w] Hk H Q e S.1.ex (RVs.cons.mpr ⟨w, [], rfl, r1, RVs.nil.mpr rfl⟩) (fun u ru => h _ _ u (Ex.refl _) S.1 ru) fun q ob hq ru => h _ _ _ (Ex.new (S.1.ex.back hq)) (S.1.new hq) ru
      · cases e
end
end Tm
set_option Elab.async false
set_option linter.all false
set_option maxRecDepth 100000
set_option maxHeartbeats 2000000
namespace Tm
open PySem L2
open Evl (Ex ex_rd ex_l ex_t)
inductive BA where
  | v (x : MV) | b (i : Nat)
abbrev MB := Env → Res (List BA × Env)
def mbNil : MB := fun ρ => .ok ([], ρ)
def mbV (a : ME) (b : MB) : MB := fun ρ => (a ρ).bind fun x ρ1 => (b ρ1).bind fun xs ρ2 => .ok (.v x :: xs, ρ2)
def mbB (i : Nat) (b : MB) : MB := fun ρ => if has ρ i then (b ρ).bind fun xs ρ2 => .ok (.b i :: xs, ρ2) else .stuck
def idxB : List BA → List Nat
  | [] => []
  | .v _ :: r => idxB r
  | .b i :: r => i :: idxB r
def posB : List BA → Nat → List Nat
  | [], _ => []
  | .v _ :: r, k => posB r (k + 1)
  | .b _ :: r, k => k :: posB r (k + 1)
def MV.held : MV → Bool
  | .own _ => true
  | .obj _ _ => true
  | .dow _ _ => true
  | .dct _ _ => true
  | .ols _ => true
  | _ => false
def fill : List BA → Env → Option (List MV)
  | [], _ => some []
  | .v x :: r, ρ => (match fill r ρ with | some xs => some (x :: xs) | none => none)
  | .b i :: r, ρ => (match ρ[i]?, fill r ρ with | some (some x), some xs => if x.held then some (x :: xs) else none | _, _ => none)
def back (ρ : Env) : List Nat → Env → Env
  | [], _ => ρ
  | i :: is, os => back (ρ.set i (os.head?).join) is os.tail
def BVs (K : PySem.W.Frag) (Hk : Hp) (σ : St) : List BA → List V → Prop
  | [], vs => vs = []
  | .v x :: r, vs => ∃ v us, vs = v :: us ∧ RV K Hk x v ∧ BVs K Hk σ r us
  | .b i :: r, vs => ∃ v us, vs = v :: us ∧ σ[i]? = some (some v) ∧ BVs K Hk σ r us
theorem BVs.mono {K : PySem.W.Frag} {Hk Hk' : Hp} {σ : St} (e : Ex Hk Hk') : ∀ {xs : List BA} {vs : List V}, BVs K Hk σ xs vs → BVs K Hk' σ xs vs
  | [], _, h => h
  | .v x :: r, vs, ⟨v, us, e1, e2, e3⟩ => ⟨v, us, e1, RV.mono e _ _ e2, BVs.mono e e3⟩
  | .b i :: r, vs, ⟨v, us, e1, e2, e3⟩ => ⟨v, us, e1, e2, BVs.mono e e3⟩
theorem BVs.length {K : PySem.W.Frag} {Hk : Hp} {σ : St} : ∀ {xs : List BA} {vs : List V}, BVs K Hk σ xs vs → vs.length = xs.length
  | [], _, h => by rw [show _ = [] from h]; rfl
  | .v x :: r, vs, ⟨v, us, e1, e2, e3⟩ => by rw [e1, List.length_cons, List.length_cons, e3.length]
  | .b i :: r, vs, ⟨v, us, e1, e2, e3⟩ => by rw [e1, List.length_cons, List.length_cons, e3.length]
def okBA (c : Ct) (F Hk : Hp) (bp : List (Nat × Addr)) (σ : St) (Q : List V → Hp → Prop) : Res (List BA × Env) → Prop
  | .ok (xs, ρ') => ∀ Hk' H' vs, Ex Hk Hk' → RS c.K F Hk' H' bp σ ρ' → BVs c.K Hk' σ xs vs → Q vs H'
  | .exc e ρ' => Wish c F Hk bp σ e ρ'
  | .stuck => False
theorem okBA.mono {c : Ct} {F Hk Hk' : Hp} {bp : List (Nat × Addr)} {σ : St} {Q : List V → Hp → Prop} {r : Res (List BA × Env)} (x : Ex Hk Hk') (h : okBA c F Hk bp σ Q r) : okBA c F Hk' bp σ Q r := by
  cases r with
  | ok a => exact fun Hk2 H2 v x2 => h Hk2 H2 v (x.trans x2)
  | exc e ρ => exact Wish.mono x h
  | stuck => exact h
def rdBA (c : Ct) (m : MB) : TA := fun σ H Q => ∃ F Hk bp ρ, At c F Hk H bp σ ρ ∧ okBA c F Hk bp σ Q (m ρ)
theorem postBA {c : Ct} {F : Hp} {bp : List (Nat × Addr)} {σ : St} {Q : List V → Hp → Prop} : Post c F bp σ fun Hk r => okBA c F Hk bp σ Q r := ⟨fun _ _ _ h => h, fun _ h => h, fun _ _ _ x h => okBA.mono x h⟩
section
variable {X : Cx} {c : Ct} {x : Str} {i : Nat} {p pos : Pos} {e : Expr} {es : List Expr}
theorem rdBAw {m : MB} {σ : St} {H : Hp} {Q Q' : List V → Hp → Prop} (h : rdBA c m σ H Q) (w : ∀ v H, Q v H → Q' v H) : rdBA c m σ H Q' := by
  obtain ⟨F, Hk, bp, ρ, S, q⟩ := h
  refine ⟨F, Hk, bp, ρ, S, ?_⟩
  cases e : m ρ with
  | ok a => rw [e] at q; exact fun Hk2 H2 v x S r => w _ _ (q Hk2 H2 v x S r)
  | exc e' ρ => rw [e] at q; exact q
  | stuck => rw [e] at q; exact q
theorem bBA {F Hk H : Hp} {bp : List (Nat × Addr)} {σ : St} {ρ : Env} {β : Type} {P : Hp → Res (β × Env) → Prop} (p : Post c F bp σ P) {a : MB} {k : List BA → Env → Res (β × Env)} (S : At c F Hk H bp σ ρ) (h : P Hk ((a ρ).bind k)) :
    rdBA c a σ H fun vs H1 => ∃ Hk1 xs ρ1, Ex Hk Hk1 ∧ At c F Hk1 H1 bp σ ρ1 ∧ BVs c.K Hk1 σ xs vs ∧ P Hk1 (k xs ρ1) := by
  refine ⟨F, Hk, bp, ρ, S, ?_⟩
  cases e : a ρ with
  | stuck => rw [e] at h; exact p.st _ h
  | exc x ρ' => rw [e] at h; exact p.ex _ _ _ h
  | ok q =>
    rw [e] at h
    exact fun Hk1 H1 v x1 S1 r1 => ⟨Hk1, q.1, q.2, x1, ⟨S1, S.2⟩, r1, p.mono _ _ _ x1 h⟩
theorem pb_nil : PA X [] (rdBA c mbNil) := PAw pa_nil fun σ H Q h => by
  obtain ⟨F, Hk, bp, ρ, S, h⟩ := h
  exact h _ _ _ (Ex.refl _) S.1 rfl
theorem pb_v {a : ME} {b : MB} (ha : PE X e (rdE c a)) (hb : PA X es (rdBA c b)) (hs : starEach (e :: es) X.env = (false, eval e X.env) :: starEach es X.env := by rfl) : PA X (e :: es) (rdBA c (mbV a b)) :=
  PAw (pa_cons ha hb hs) fun σ H Q h => by
    obtain ⟨F, Hk, bp, ρ, S, h⟩ := h
    refine rdw (bE postBA S h) fun v H1 ⟨Hk1, x, ρ1, x1, S1, r1, h1⟩ => ?_
    refine rdBAw (bBA postBA S1 h1) fun vs H2 ⟨Hk2, xs, ρ2, x2, S2, r2, h2⟩ => ?_
    exact h2 _ _ _ (Ex.refl _) S2.1 ⟨v, vs, rfl, RV.mono x2 _ _ r1, r2⟩
theorem pb_b {b : MB} (hN : X.N[i]? = some x) (hv : Vis X.env.scope x) (hb : PA X es (rdBA c b)) (hd : (x == ("__debug__" : Str)) = false := by decide) (hcd : (x == ("__classdict__" : Str)) = false := by decide) (hs : starEach (Expr.Name x p :: es) X.env = (false, eval (.Name x p) X.env) :: starEach es X.env := by rfl) : PA X (.Name x p :: es) (rdBA c (mbB i b)) :=
  PAw (pa_cons (pe_var hN hv hd hcd) hb hs) fun σ H Q h => by
    obtain ⟨F, Hk, bp, ρ, S, h⟩ := h
    unfold mbB at h
    split at h
    · rename_i hh
      obtain ⟨v, ev⟩ := has_rs S hh
      refine ⟨v, ev, ?_⟩
      refine rdBAw (bBA postBA S h) fun vs H2 ⟨Hk2, xs, ρ2, x2, S2, r2, h2⟩ => ?_
      exact h2 _ _ _ (Ex.refl _) S2.1 ⟨v, vs, rfl, ev, r2⟩
    · exact h.elim
end
theorem fill_at {K : PySem.W.Frag} {Hk : Hp} {σ : St} {ρ : Env} : ∀ {args : List BA} {vs : List V} {xs : List MV}, BVs K Hk σ args vs → fill args ρ = some xs → ∀ (j : Nat) (x : MV), xs[j]? = some x →
    ∃ v, vs[j]? = some v ∧ ((args[j]? = some (.v x) ∧ RV K Hk x v) ∨ ∃ i, args[j]? = some (.b i) ∧ ρ[i]? = some (some x) ∧ σ[i]? = some (some v) ∧ x.held = true)
  | [], vs, xs, r, f, j, x, h => by cases f; simp at h
  | .v y :: args, vs, xs, r, f, j, x, h => by
    obtain ⟨v, us, rfl, r1, r2⟩ := r
    unfold fill at f
    cases e : fill args ρ with
    | none => rw [e] at f; cases f
    | some zs =>
      rw [e] at f
      cases f
      match j with
      | 0 => simp at h; subst h; exact ⟨v, rfl, .inl ⟨rfl, r1⟩⟩
      | j + 1 => simpa using fill_at r2 e j x (by simpa using h)
  | .b i :: args, vs, xs, r, f, j, x, h => by
    obtain ⟨v, us, rfl, r1, r2⟩ := r
    unfold fill at f
    split at f
    · rename_i y zs e1 e2
      split at f
      · rename_i hh
        cases f
        match j with
        | 0 => simp at h; subst h; exact ⟨v, rfl, .inr ⟨i, rfl, e1, r1, hh⟩⟩
        | j + 1 => simpa using fill_at r2 e2 j x (by simpa using h)
      · cases f
    · cases f
theorem fill_len {ρ : Env} : ∀ {args : List BA} {xs : List MV}, fill args ρ = some xs → xs.length = args.length
  | [], xs, f => by cases f; rfl
  | .v y :: args, xs, f => by
    unfold fill at f
    cases e : fill args ρ with
    | none => rw [e] at f; cases f
    | some zs => rw [e] at f; cases f; simp [fill_len e]
  | .b i :: args, xs, f => by
    unfold fill at f
    split at f
    · rename_i y zs e1 e2
      split at f
      · cases f; simp [fill_len e2]
      · cases f
    · cases f
theorem fill_has {ρ : Env} : ∀ {args : List BA} {xs : List MV}, fill args ρ = some xs → ∀ i ∈ idxB args, ∃ x, ρ[i]? = some (some x) ∧ x.held = true
  | [], xs, f, i, h => by cases h
  | .v y :: args, xs, f, i, h => by
    unfold fill at f
    cases e : fill args ρ with
    | none => rw [e] at f; cases f
    | some zs => exact fill_has e i h
  | .b k :: args, xs, f, i, h => by
    unfold fill at f
    split at f
    · rename_i y zs e1 e2
      split at f
      · rename_i hh
        rcases List.mem_cons.mp h with rfl | h
        · exact ⟨y, e1, hh⟩
        · exact fill_has e2 i h
      · cases f
    · cases f
theorem idx_mem : ∀ {args : List BA} {j i : Nat}, args[j]? = some (.b i) → i ∈ idxB args
  | [], j, i, h => by simp at h
  | .v y :: args, 0, i, h => by simp at h
  | .v y :: args, j + 1, i, h => idx_mem (args := args) (j := j) (by simpa using h)
  | .b k :: args, 0, i, h => by simp at h; subst h; simp [idxB]
  | .b k :: args, j + 1, i, h => List.mem_cons_of_mem _ (idx_mem (args := args) (j := j) (by simpa using h))
theorem idx_inj : ∀ {args : List BA} {j k i : Nat}, (idxB args).Nodup → args[j]? = some (.b i) → args[k]? = some (.b i) → j = k
  | [], j, k, i, _, h, _ => by simp at h
  | .v y :: args, 0, k, i, _, h, _ => by simp at h
  | .v y :: args, _ + 1, 0, i, _, _, h => by simp at h
  | .v y :: args, j + 1, k + 1, i, nd, h1, h2 => by have := idx_inj (args := args) (j := j) (k := k) (i := i) nd (by simpa using h1) (by simpa using h2); omega
  | .b n :: args, 0, 0, i, _, _, _ => rfl
  | .b n :: args, 0, k + 1, i, nd, h1, h2 => by
    simp at h1; subst h1
    exact absurd (idx_mem (args := args) (j := k) (by simpa using h2)) (List.nodup_cons.mp nd).1
  | .b n :: args, j + 1, 0, i, nd, h1, h2 => by
    simp at h2; subst h2
    exact absurd (idx_mem (args := args) (j := j) (by simpa using h1)) (List.nodup_cons.mp nd).1
  | .b n :: args, j + 1, k + 1, i, nd, h1, h2 => by have := idx_inj (args := args) (j := j) (k := k) (i := i) (List.nodup_cons.mp nd).2 (by simpa using h1) (by simpa using h2); omega
def addrOf : V → Addr
  | .ref a => a
  | _ => 0
def bqOf : List BA → List V → Nat → List (Nat × Addr)
  | .v _ :: r, _ :: us, k => bqOf r us (k + 1)
  | .b _ :: r, v :: us, k => (k, addrOf v) :: bqOf r us (k + 1)
  | _, _, _ => []
theorem bq_pos {K : PySem.W.Frag} {Hk : Hp} {σ : St} : ∀ {args : List BA} {vs : List V} (k : Nat), BVs K Hk σ args vs → (bqOf args vs k).map (·.1) = posB args k
  | [], vs, k, _ => by cases vs <;> rfl
  | .v y :: args, vs, k, ⟨v, us, e, _, r⟩ => by subst e; exact bq_pos (k + 1) r
  | .b i :: args, vs, k, ⟨v, us, e, _, r⟩ => by subst e; show k :: _ = k :: _; rw [bq_pos (k + 1) r]
theorem bq_idx {K : PySem.W.Frag} {Hk : Hp} {σ : St} : ∀ {args : List BA} {vs : List V} (k : Nat), BVs K Hk σ args vs → (∀ i ∈ idxB args, ∃ a, σ[i]? = some (some (.ref a))) → (bqOf args vs k).map (fun q => some (V.ref q.2)) = (idxB args).map fun i => (σ[i]?).join
  | [], vs, k, _, _ => by cases vs <;> rfl
  | .v y :: args, vs, k, ⟨v, us, e, _, r⟩, h => by subst e; exact bq_idx (k + 1) r h
  | .b i :: args, vs, k, ⟨v, us, e, e2, r⟩, h => by
    subst e
    obtain ⟨a, ha⟩ := h i (by simp [idxB])
    rw [ha] at e2
    cases e2
    show some (V.ref a) :: _ = (σ[i]?).join :: _
    rw [ha, bq_idx (k + 1) r fun j hj => h j (by simp [idxB, hj])]; rfl
theorem bq_bor {K : PySem.W.Frag} {Hk : Hp} {σ : St} : ∀ {args : List BA} {vs : List V} (k : Nat), BVs K Hk σ args vs → (∀ i ∈ idxB args, ∃ a, σ[i]? = some (some (.ref a))) → ∀ q ∈ bqOf args vs k, k ≤ q.1 ∧ vs[q.1 - k]? = some (.ref q.2)
  | [], vs, k, _, _, q, hq => by cases vs <;> cases hq
  | .v y :: args, vs, k, ⟨v, us, e, _, r⟩, h, q, hq => by
    subst e
    obtain ⟨h1, h2⟩ := bq_bor (k + 1) r h q hq
    refine ⟨by omega, ?_⟩
    rw [show q.1 - k = q.1 - (k + 1) + 1 by omega]; exact h2
  | .b i :: args, vs, k, ⟨v, us, e, e2, r⟩, h, q, hq => by
    subst e
    obtain ⟨a, ha⟩ := h i (by simp [idxB])
    rw [ha] at e2
    cases e2
    rcases List.mem_cons.mp hq with rfl | hq
    · exact ⟨Nat.le_refl _, by simp [addrOf]⟩
    · obtain ⟨h1, h2⟩ := bq_bor (k + 1) r (fun j hj => h j (by simp [idxB, hj])) q hq
      refine ⟨by omega, ?_⟩
      rw [show q.1 - k = q.1 - (k + 1) + 1 by omega]; exact h2
theorem back_len : ∀ {is : List Nat} {ρ os : Env}, (back ρ is os).length = ρ.length
  | [], _, _ => rfl
  | i :: is, ρ, os => by unfold back; rw [back_len, List.length_set]
theorem back_ne : ∀ {is : List Nat} {ρ os : Env} {j : Nat}, j ∉ is → (back ρ is os)[j]? = ρ[j]?
  | [], _, _, _, _ => rfl
  | i :: is, ρ, os, j, h => by
    unfold back
    rw [back_ne (fun z => h (List.mem_cons_of_mem _ z)), List.getElem?_set_ne (fun z => h (by simp [z]))]
theorem back_at : ∀ {is : List Nat} {ρ os : Env} {k i : Nat}, is.Nodup → is[k]? = some i → i < ρ.length → (back ρ is os)[i]? = some (os[k]?).join
  | [], _, _, _, _, _, h, _ => by simp at h
  | n :: is, ρ, os, 0, i, nd, h, hl => by
    simp at h; subst h
    unfold back
    rw [back_ne (List.nodup_cons.mp nd).1, List.getElem?_set_self hl]
    cases os <;> rfl
  | n :: is, ρ, os, k + 1, i, nd, h, hl => by
    unfold back
    rw [back_at (is := is) (k := k) (List.nodup_cons.mp nd).2 (by simpa using h) (by simpa using hl)]
    cases os <;> simp
end Tm
set_option Elab.async false
set_option linter.all false
set_option maxRecDepth 100000
set_option maxHeartbeats 2000000
namespace Tm
open PySem L2
open Evl (Ex ex_rd ex_l ex_t)
theorem held_ref {K : PySem.W.Frag} {Hk H : Hp} {x : MV} {v : V} {A : List Addr} (h : x.held = true) (o : OV K Hk H x v A) : ∃ a, v = .ref a := by
  cases x with
  | own xs => obtain ⟨p, vs, e, _⟩ := OV.own.mp o; exact ⟨p, e⟩
  | obj C fs =>
    unfold OV at o
    obtain ⟨p, CA, dx, vfs, B, e, _⟩ := o
    exact ⟨p, e⟩
  | dow ks xs =>
    unfold OV OF at o
    obtain ⟨p, vs, e, _⟩ := o
    exact ⟨p, e⟩
  | dct ks xs =>
    obtain ⟨p, vs, e, _⟩ := RV.dct.mp ((OV.per rfl).mp o).2
    exact ⟨p, e⟩
  | ols os =>
    unfold OV at o
    obtain ⟨p, vs, B, e, _⟩ := o
    exact ⟨p, e⟩
  | _ => cases h
section
variable {c : Ct} {F Hk H : Hp} {bp : List (Nat × Addr)} {σ : St} {ρ : Env} {args : List BA} {vs : List V} {xs : List MV} {ow : Nat → List Addr}
def owB (is : List Nat) (ow ow2 : Nat → List Addr) (j : Nat) : List Addr := if j ∈ is then ow2 (is.idxOf j) else ow j
theorem callB_end {f : MF} {n : Nat} {bs : List Nat} {Q : VK} {E : XK} (S : At c F Hk H bp σ ρ) (r : BVs c.K Hk σ args vs) (hn : args.length = n) (nd : (idxB args).Nodup) (hbs : posB args 0 = bs) (hf : fill args ρ = some xs)
    (hE : ∀ e ρ', (∀ Hk' H' cls d, Ex Hk Hk' → RS c.K F Hk' H' bp σ ρ' → ExR c.K c.mg Hk' e cls d → c.W cls d σ H') → ∀ Hk' H' cls d, Ex Hk Hk' → RS c.K F Hk' H' bp σ ρ' → ExR c.K c.mg Hk' e cls d → E cls d H')
    (h : okO c F Hk bp σ Q (match f xs with | .ok (v, os) => .ok (v, back ρ (idxB args) os) | .exc e os => .exc e (back ρ (idxB args) os) | .stuck => .stuck)) : spF c.K c.mg n bs f vs H Q E := by
  refine ⟨by rw [r.length]; exact hn, ?_⟩
  obtain ⟨ow, s⟩ := S.1.ow
  have ih := fill_has hf
  have refs : ∀ i ∈ idxB args, ∃ a, σ[i]? = some (some (.ref a)) := fun i hi => by
    obtain ⟨x, ex, hx⟩ := ih i hi
    obtain ⟨v, ev, o⟩ := s.s i x ex
    obtain ⟨a, rfl⟩ := held_ref hx o
    exact ⟨a, ev⟩
  have lti : ∀ i ∈ idxB args, i < ρ.length := fun i hi => by
    obtain ⟨x, ex, _⟩ := ih i hi
    exact lt_get ex
  haveI : ∀ a, Decidable (∃ i, i ∉ idxB args ∧ a ∈ ow i) := fun a => Classical.propDecidable _
  have fN : ∃ F' : Hp, (∀ i a, i ∉ idxB args → a ∈ ow i → F' a = H a) ∧ (∀ a o, F a = some o → F' a = some o) ∧ (∀ a o, F' a = some o → H a = some o ∧ Hk a = none) ∧ (∀ i a, i ∈ idxB args → a ∈ ow i → F' a = none) := by
    refine ⟨fun a => if (∃ i, i ∉ idxB args ∧ a ∈ ow i) then H a else F a, fun i a hi ha => if_pos ⟨i, hi, ha⟩, fun a o ha => ?_, fun a o ha => ?_, fun i a hi ha => ?_⟩
    · have : ¬ ∃ i, i ∉ idxB args ∧ a ∈ ow i := fun ⟨i, _, hi⟩ => by have := (s.f i a hi).2.1; rw [ha] at this; cases this
      show (if (∃ i, i ∉ idxB args ∧ a ∈ ow i) then H a else F a) = some o
      rw [if_neg this]; exact ha
    · have ha : (if (∃ i, i ∉ idxB args ∧ a ∈ ow i) then H a else F a) = some o := ha
      by_cases e : ∃ i, i ∉ idxB args ∧ a ∈ ow i
      · rw [if_pos e] at ha
        obtain ⟨i, _, hi⟩ := e
        exact ⟨ha, (s.f i a hi).1⟩
      · rw [if_neg e] at ha
        exact ⟨S.1.fr a o ha, S.1.frk a o ha⟩
    · have : ¬ ∃ i, i ∉ idxB args ∧ a ∈ ow i := fun ⟨k, hk, hka⟩ => s.d i k a (fun z => hk (z ▸ hi)) ha hka
      show (if (∃ i, i ∉ idxB args ∧ a ∈ ow i) then H a else F a) = none
      rw [if_neg this]; exact (s.f i a ha).2.1
  obtain ⟨F', f1, f2, f3, f4⟩ := fN
  have hlv : vs.length = xs.length := by rw [r.length, fill_len hf]
  have at_ : ∀ {j i : Nat} {a : Addr}, a ∈ (match args[j]? with | some (BA.b i) => ow i | _ => []) → ∃ i, args[j]? = some (.b i) ∧ a ∈ ow i := fun {j i a} h => by
    split at h
    · rename_i k e; exact ⟨k, e, h⟩
    · cases h
  refine ⟨F', Hk, bqOf args vs 0, xs, ?_, by rw [bq_pos 0 r, hbs], ?_⟩
  · refine ⟨by simp [hlv], S.1.ex, fun a o ha => (f3 a o ha).1, fun a o ha => (f3 a o ha).2, ⟨fun j => match args[j]? with | some (BA.b i) => ow i | _ => [], ?_⟩, fun q hq => ?_⟩
    · refine ⟨fun j y hj => ?_, fun j a hj => ?_, fun j hj => ?_, fun j k a hjk h1 h2 => ?_⟩
      · rw [List.getElem?_map] at hj
        cases ex : xs[j]? with
        | none => rw [ex] at hj; cases hj
        | some x =>
          rw [ex] at hj
          cases hj
          obtain ⟨v, ev, hv⟩ := fill_at r hf j y ex
          refine ⟨v, by rw [List.getElem?_map, ev]; rfl, ?_⟩
          rcases hv with ⟨e1, r1⟩ | ⟨i, e1, e2, e3, _⟩
          · rw [e1]; exact r1.ov
          · rw [e1]
            obtain ⟨u, eu, ou⟩ := s.s i y e2
            rw [e3] at eu
            cases eu
            exact ou
      · obtain ⟨i, e1, hi⟩ := at_ (i := 0) hj
        obtain ⟨g1, g2, g3⟩ := s.f i a hi
        exact ⟨g1, f4 i a (idx_mem e1) hi, g3⟩
      · cases e : args[j]? with
        | none => rw [e] at hj; exact (hj rfl).elim
        | some b =>
          have := lt_get e
          rw [List.length_map, fill_len hf]; exact this
      · obtain ⟨i1, e1, m1⟩ := at_ (i := 0) h1
        obtain ⟨i2, e2, m2⟩ := at_ (i := 0) h2
        by_cases e : i1 = i2
        · subst e; exact hjk (idx_inj nd e1 e2)
        · exact s.d i1 i2 a e m1 m2
    · obtain ⟨_, h2⟩ := bq_bor 0 r refs q hq
      rw [List.getElem?_map, show vs[q.1]? = some (.ref q.2) from h2]; rfl
  -- what stands behind the call
  have bidx := bq_idx (k := 0) r refs
  have main : ∀ {Hk' H' : Hp} {τ : St} {os υ : Env}, Ex Hk Hk' → RS c.K F' Hk' H' [] ((idxB args).map (fun i => (σ[i]?).join) ++ τ) (os ++ υ) → os.length = (idxB args).length → ∀ ow2, SL c.K F' Hk' H' ow2 ((idxB args).map (fun i => (σ[i]?).join) ++ τ) (os ++ υ) →
      SL c.K F Hk' H' (owB (idxB args) ow ow2) σ (back ρ (idxB args) os) ∧ RS c.K F Hk' H' bp σ (back ρ (idxB args) os) := fun {Hk' H' τ os υ} x S' hos ow2 s2 => by
    have other : ∀ j, j ∉ idxB args → ∀ a ∈ ow j, F' a = H a ∧ ∃ o, H a = some o ∧ H' a = some o ∧ Hk' a = none := fun j hj a ha => by
      obtain ⟨g1, g2, o, g3⟩ := s.f j a ha
      have q : F' a = some o := (f1 j a hj ha).trans g3
      exact ⟨f1 j a hj ha, o, g3, S'.fr a o q, S'.frk a o q⟩
    have idl : ∀ j ∈ idxB args, (idxB args).idxOf j < (idxB args).length := fun j hj => List.idxOf_lt_length_of_mem hj
    have idg : ∀ j ∈ idxB args, (idxB args)[(idxB args).idxOf j]? = some j := fun j hj => by
      rw [List.getElem?_eq_getElem (idl j hj), List.getElem_idxOf]
    have inj : ∀ j k, j ∈ idxB args → k ∈ idxB args → (idxB args).idxOf j = (idxB args).idxOf k → j = k := fun j k hj hk e => by
      have a := idg j hj
      have b := idg k hk
      rw [e, b] at a
      cases a; rfl
    have sl : SL c.K F Hk' H' (owB (idxB args) ow ow2) σ (back ρ (idxB args) os) := by
      refine ⟨fun j y hj => ?_, fun j a hj => ?_, fun j hj => ?_, fun j k a hjk h1 h2 => ?_⟩
      · unfold owB
        by_cases e : j ∈ idxB args
        · rw [if_pos e]
          rw [back_at nd (idg j e) (lti j e)] at hj
          have lk := idl j e
          have gk := idg j e
          generalize (idxB args).idxOf j = k at hj lk gk ⊢
          have ek : os[k]? = some (some y) := by
            cases eo : os[k]? with
            | none => rw [eo] at hj; cases hj
            | some o => rw [eo] at hj; cases o with
              | none => cases hj
              | some z => cases hj; rfl
          obtain ⟨u, eu, ou⟩ := s2.s k y (by rw [List.getElem?_append_left (by rw [hos]; exact lk)]; exact ek)
          rw [List.getElem?_append_left (by simpa using lk), List.getElem?_map] at eu
          refine ⟨u, ?_, ou⟩
          obtain ⟨a, ha⟩ := refs j e
          rw [gk, Option.map_some, ha] at eu
          rw [ha]
          exact eu
        · rw [if_neg e]
          rw [back_ne e] at hj
          obtain ⟨u, e1, o1⟩ := s.s j y hj
          refine ⟨u, e1, o1.move x fun a ha o ho => ?_⟩
          obtain ⟨_, o', g1, g2, _⟩ := other j e a ha
          rw [ho] at g1; cases g1; exact g2
      · unfold owB at hj
        by_cases e : j ∈ idxB args
        · rw [if_pos e] at hj
          obtain ⟨g1, g2, g3⟩ := s2.f _ a hj
          refine ⟨g1, ?_, g3⟩
          cases ef : F a with
          | none => rfl
          | some o => rw [f2 a o ef] at g2; cases g2
        · rw [if_neg e] at hj
          obtain ⟨_, o', g1, g2, g3⟩ := other j e a hj
          exact ⟨g3, (s.f j a hj).2.1, o', g2⟩
      · unfold owB at hj
        rw [back_len]
        by_cases e : j ∈ idxB args
        · exact lti j e
        · rw [if_neg e] at hj; exact s.w j hj
      · unfold owB at h1 h2
        by_cases e1 : j ∈ idxB args <;> by_cases e2 : k ∈ idxB args
        · rw [if_pos e1] at h1; rw [if_pos e2] at h2
          exact s2.d _ _ a (fun z => hjk (inj j k e1 e2 z)) h1 h2
        · rw [if_pos e1] at h1; rw [if_neg e2] at h2
          obtain ⟨q, o', g1, _⟩ := other k e2 a h2
          have := (s2.f _ a h1).2.1
          rw [q, g1] at this; cases this
        · rw [if_neg e1] at h1; rw [if_pos e2] at h2
          obtain ⟨q, o', g1, _⟩ := other j e1 a h1
          have := (s2.f _ a h2).2.1
          rw [q, g1] at this; cases this
        · rw [if_neg e1] at h1; rw [if_neg e2] at h2
          exact s.d j k a hjk h1 h2
    exact ⟨sl, by rw [back_len]; exact S.1.len, S'.ex, fun a o ha => S'.fr a o (f2 a o ha), fun a o ha => S'.frk a o (f2 a o ha), ⟨_, sl⟩, S.1.bor⟩
  rw [bidx]
  cases ef : f xs with
  | stuck => rw [ef] at h; exact h.elim
  | exc e os =>
    rw [ef] at h
    intro Hk' H' cls d x S' er
    obtain ⟨ow2, s2⟩ := S'.ow
    have hos : os.length = (idxB args).length := by have := S'.len; simpa using this.symm
    have m := main (τ := []) (υ := []) x (by simpa using S') hos ow2 (by simpa using s2)
    exact hE e _ h Hk' H' cls d x m.2 er
  | ok p =>
    obtain ⟨v, os⟩ := p
    rw [ef] at h
    intro Hk' H' w x S'
    obtain ⟨ow2, s2⟩ := S'.ow
    have hos : os.length = (idxB args).length := by have := S'.len; simpa using this.symm
    obtain ⟨sl, R1⟩ := main x S' hos ow2 s2
    obtain ⟨u, eu, ou⟩ := s2.s os.length v (by simp)
    have : u = w := by
      rw [hos, List.getElem?_append_right (by simp)] at eu
      simpa using eu.symm
    subst this
    refine h Hk' H' u x ?_
    refine ⟨by simp [back_len, S.1.len], R1.ex, R1.fr, R1.frk, ⟨_, sl.push (by rw [back_len]; exact S.1.len) ou (fun a ha => ?_) (fun i a ha hi => ?_)⟩, R1.bor_app _⟩
    · obtain ⟨g1, g2, _⟩ := s2.f _ a ha
      refine ⟨g1, ?_⟩
      cases e : F a with
      | none => rfl
      | some o => rw [f2 a o e] at g2; cases g2
    · obtain ⟨g1, g2, o, g3⟩ := s2.f _ a ha
      unfold owB at hi
      by_cases e : i ∈ idxB args
      · rw [if_pos e] at hi
        have lk := List.idxOf_lt_length_of_mem e
        exact s2.d _ _ a (by omega) ha hi
      · rw [if_neg e] at hi
        obtain ⟨_, _, o', q⟩ := s.f i a hi
        rw [f1 i a e hi, q] at g2
        cases g2
end
def Bsh (a : MB) (k : Nat) (is bs : List Nat) (n : Nat) : Prop := ∀ ρ xs ρ', a ρ = .ok (xs, ρ') → idxB xs = is ∧ posB xs k = bs ∧ xs.length = n
theorem bsh_nil {k : Nat} : Bsh mbNil k [] [] 0 := fun ρ xs ρ' h => by cases h; exact ⟨rfl, rfl, rfl⟩
theorem bsh_v {a : ME} {b : MB} {k n : Nat} {is bs : List Nat} (h : Bsh b (k + 1) is bs n) : Bsh (mbV a b) k is bs (n + 1) := fun ρ xs ρ' e => by
  unfold mbV at e
  cases ea : a ρ with
  | stuck => rw [ea] at e; cases e
  | exc x r => rw [ea] at e; cases e
  | ok p =>
    rw [ea] at e
    have e : (b p.2).bind (fun ys ρ2 => Res.ok (BA.v p.1 :: ys, ρ2)) = .ok (xs, ρ') := e
    cases eb : b p.2 with
    | stuck => rw [eb] at e; cases e
    | exc x r => rw [eb] at e; cases e
    | ok q =>
      rw [eb] at e
      cases e
      obtain ⟨h1, h2, h3⟩ := h _ _ _ eb
      exact ⟨h1, h2, by simp [h3]⟩
theorem bsh_b {i : Nat} {b : MB} {k n : Nat} {is bs : List Nat} (h : Bsh b (k + 1) is bs n) : Bsh (mbB i b) k (i :: is) (k :: bs) (n + 1) := fun ρ xs ρ' e => by
  unfold mbB at e
  split at e
  · cases eb : b ρ with
    | stuck => rw [eb] at e; cases e
    | exc x r => rw [eb] at e; cases e
    | ok q =>
      rw [eb] at e
      cases e
      obtain ⟨h1, h2, h3⟩ := h _ _ _ eb
      exact ⟨by show i :: _ = _; rw [h1], by show k :: _ = _; rw [h2], by simp [h3]⟩
  · cases e
def cbE (f : MF) (args : List BA) (ρ : Env) : Res (MV × Env) := match fill args ρ with
  | some xs => (match f xs with | .ok (v, os) => .ok (v, back ρ (idxB args) os) | .exc e os => .exc e (back ρ (idxB args) os) | .stuck => .stuck)
  | none => .stuck
def mCallB (f : MF) (a : MB) : ME := fun ρ => (a ρ).bind (cbE f)
section
variable {X : Cx} {c : Ct} {k : Nat} {fa : Addr} {fd : FuncData} {ps : List Str} {x : Str} {p pos : Pos} {e : Expr} {es : List Expr} {f : MF} {a : MB} {n : Nat} {is bs : List Nat}
theorem rd_callB (sh : Bsh a 0 is bs n) (nd : is.Nodup) {σ : St} {H : Hp} {Q : VK} (h : rdO c (mCallB f a) σ H Q) : tCallS (spF c.K c.mg n bs f) (WE c.W) (rdBA c a) σ H Q := by
  obtain ⟨F, Hk, bp, ρ, S, h⟩ := h
  refine ⟨F, Hk, bp, ρ, S, ?_⟩
  have h : okO c F Hk bp σ Q ((a ρ).bind (cbE f)) := h
  cases e : a ρ with
  | stuck => rw [e] at h; exact h
  | exc x ρ' => rw [e] at h; exact h
  | ok q =>
    obtain ⟨args, ρ1⟩ := q
    rw [e] at h
    intro Hk1 H1 vs x1 S1 r1
    have h : okO c F Hk1 bp σ Q (cbE f args ρ1) := okO.mono x1 h
    unfold cbE at h
    obtain ⟨q1, q2, q3⟩ := sh _ _ _ e
    cases ef : fill args ρ1 with
    | none => rw [ef] at h; exact h.elim
    | some xs =>
      rw [ef] at h
      exact callB_end ⟨S1, S.2⟩ r1 q3 (by rw [q1]; exact nd) q2 ef (fun e ρ' q => q) h
theorem mo_callB (F : FnOk X.prog X.w X.K X.mg X.base (L2N.CX X.prog X.w) k fa fd ps (spF X.K X.mg n bs f)) (hr : Room k X.A) (hm : X.mg x = some (.ref fa)) (hk : PySem.W.keepIn X.K (.ref fa) = true) (hb : Binds X.K fd ps []) (tk : L2N.Takes X c.W)
    (ha : PA X (e :: es) (rdBA c a)) (sh : Bsh a 0 is bs n) (nd : is.Nodup := by decide) (hg : Gl X x := by rfl) (hK : c.K = X.K := by rfl) (hM : c.mg = X.mg := by rfl) (hdb : (x == ("__debug__" : Str)) = false := by decide) (he : starEach (e :: es) X.env = (false, eval e X.env) :: starEach es X.env := by rfl)
    (hpl : (backTo pos (starEach es X.env)).any (·.1) = false := by rfl) : PE X (.Call (.Name x p) (e :: es) [] pos) (rdO c (mCallB f a)) :=
  PEw (pe_callS (E := WE c.W) F hr hg hm hk hb (fun σ => L2N.passAt tk σ) ha hdb he hpl) fun σ H Q h => by
    have := rd_callB sh nd h
    rw [hK, hM] at this
    exact this
theorem mf_callB {j : Nat} (G : Fd X.prog X.w X.K X.mg X.base x k ps bs f) (hr : Room j X.A) (hj : k ≤ j) (tk : L2N.Takes X c.W) (ha : PA X (e :: es) (rdBA c a)) (sh : Bsh a 0 is bs ps.length) (nd : is.Nodup := by decide) (hg : Gl X x := by rfl) (hK : c.K = X.K := by rfl) (hM : c.mg = X.mg := by rfl) (hdb : (x == ("__debug__" : Str)) = false := by decide)
    (he : starEach (e :: es) X.env = (false, eval e X.env) :: starEach es X.env := by rfl) (hpl : (backTo pos (starEach es X.env)).any (·.1) = false := by rfl) : PE X (.Call (.Name x p) (e :: es) [] pos) (rdO c (mCallB f a)) := by
  obtain ⟨fa, fd, F, hm, hk, hb⟩ := G.ex
  exact mo_callB F (hr.mono hj) hm hk hb tk ha sh nd hg hK hM hdb he hpl
end
end Tm
set_option Elab.async false
set_option linter.all false
set_option maxRecDepth 100000
set_option maxHeartbeats 2000000
namespace Tm
open PySem L2
open Evl (Ex ex_rd ex_l ex_t)
def putM (f : Str) (v : MV) : List (Str × MV) → List (Str × MV)
  | [] => [(f, v)]
  | (g, x) :: r => if g = f then (g, v) :: r else (g, x) :: putM f v r
theorem look_eq {α : Type} {f g : Str} {x : α} {r : List (Str × α)} : ((g, x) :: r).lookup f = if g = f then some x else r.lookup f := by
  rw [List.lookup_cons]
  by_cases e : g = f
  · subst e; simp
  · rw [if_neg e]
    have : (f == g) = false := by simpa using fun z => e z.symm
    rw [this]
section
variable {K : PySem.W.Frag} {Hk H : Hp}
theorem OFs.focus : ∀ {fs : List (Str × MV)} {vfs : List (Str × V)} {B : List Addr} {f : Str} {x : MV}, OFs K Hk H fs vfs B → fs.lookup f = some x → ∃ v A1 B1 B2, vfs.lookup f = some v ∧ B = B1 ++ A1 ++ B2 ∧ OF K Hk H x v A1 ∧
    ∀ (Hk' H' : Hp) (x' : MV) (v' : V) (A1' : List Addr), Ex Hk Hk' → (∀ a ∈ B1 ++ B2, ∀ o, H a = some o → H' a = some o) → OF K Hk' H' x' v' A1' → OFs K Hk' H' (putM f x' fs) (putF f v' vfs) (B1 ++ A1' ++ B2)
  | [], _, _, _, _, _, h => by simp at h
  | (n, y) :: fs, vfs, B, f, x, ⟨v, r, C, D, e1, e2, o1, o2⟩, h => by
    subst e1 e2
    rw [look_eq] at h
    by_cases e : n = f
    · rw [if_pos e] at h
      cases h
      refine ⟨v, C, [], D, by rw [look_eq, if_pos e], by simp, o1, fun Hk' H' x' v' A1' ex k o' => ?_⟩
      unfold putM putF
      rw [if_pos e, if_pos e]
      exact ⟨v', r, A1', D, rfl, by simp, o', OFs.move o2 ex fun a ha => k a (by simpa using ha)⟩
    · rw [if_neg e] at h
      obtain ⟨w, A1, B1, B2, g1, g2, g3, g4⟩ := OFs.focus o2 h
      refine ⟨w, A1, C ++ B1, B2, by rw [look_eq, if_neg e]; exact g1, by rw [g2]; simp, g3, fun Hk' H' x' v' A1' ex k o' => ?_⟩
      unfold putM putF
      rw [if_neg e, if_neg e]
      exact ⟨v, _, C, B1 ++ A1' ++ B2, rfl, by simp, o1.move ex fun a ha => k a (by simp [ha]), g4 Hk' H' x' v' A1' ex (fun a ha => k a (by rcases List.mem_append.mp ha with h | h <;> simp [h])) o'⟩
theorem OFs.fresh : ∀ {fs : List (Str × MV)} {vfs : List (Str × V)} {B : List Addr} {f : Str}, OFs K Hk H fs vfs B → fs.lookup f = none → vfs.lookup f = none ∧
    ∀ (Hk' H' : Hp) (x' : MV) (v' : V) (A1' : List Addr), Ex Hk Hk' → (∀ a ∈ B, ∀ o, H a = some o → H' a = some o) → OF K Hk' H' x' v' A1' → OFs K Hk' H' (putM f x' fs) (putF f v' vfs) (B ++ A1')
  | [], vfs, B, f, ⟨e1, e2⟩, _ => by
    subst e1 e2
    exact ⟨rfl, fun Hk' H' x' v' A1' ex k o' => ⟨v', [], A1', [], rfl, by simp, o', rfl, rfl⟩⟩
  | (n, y) :: fs, vfs, B, f, ⟨v, r, C, D, e1, e2, o1, o2⟩, h => by
    subst e1 e2
    rw [look_eq] at h
    by_cases e : n = f
    · rw [if_pos e] at h; cases h
    · rw [if_neg e] at h
      obtain ⟨g1, g4⟩ := OFs.fresh o2 h
      refine ⟨by rw [look_eq, if_neg e]; exact g1, fun Hk' H' x' v' A1' ex k o' => ?_⟩
      unfold putM putF
      rw [if_neg e, if_neg e]
      exact ⟨v, _, C, D ++ A1', rfl, by simp, o1.move ex fun a ha => k a (by simp [ha]), g4 Hk' H' x' v' A1' ex (fun a ha => k a (by simp [ha])) o'⟩
theorem OFs.len : ∀ {fs : List (Str × MV)} {vfs : List (Str × V)} {B : List Addr}, OFs K Hk H fs vfs B → vfs.length = fs.length
  | [], vfs, B, ⟨e1, _⟩ => by rw [e1]; rfl
  | _ :: fs, vfs, B, ⟨v, r, C, D, e1, e2, o1, o2⟩ => by rw [e1, List.length_cons, List.length_cons, o2.len]
theorem OV.obj {C : Str} {fs : List (Str × MV)} {v : V} {A : List Addr} : OV K Hk H (.obj C fs) v A ↔ ∃ p CA dx vfs B, v = .ref p ∧ A = p :: B ∧ PySem.W.nsIn K mainGlobals C = some (some (.ref CA)) ∧ H p = some (.ins CA dx vfs) ∧ OFs K Hk H fs vfs B ∧ (p :: B).Nodup := by
  unfold OV; rfl
theorem OF.own {xs : List MV} {v : V} {A : List Addr} : OF K Hk H (.own xs) v A ↔ ∃ p vs, v = .ref p ∧ A = [p] ∧ H p = some (.lst vs) ∧ RVs K Hk xs vs := by
  unfold OF; rfl
end
structure ObC (K : PySem.W.Frag) (C : Str) (fs : List Str) : Prop where
  ex : ∀ CA, PySem.W.nsIn K mainGlobals C = some (some (.ref CA)) → Cls K CA ∧ ∀ f ∈ fs, NoAttr K CA f
end Tm
set_option Elab.async false
set_option linter.all false
set_option maxRecDepth 100000
set_option maxHeartbeats 2000000
namespace Tm
open PySem L2
open Evl (Ex ex_rd ex_l ex_t)
structure ObM (P : Program) (w : World) (K : PySem.W.Frag) (mg : Str → Option Value) (base : Heap) (C m : Str) (k : Nat) (ps : List Str) (bs : List Nat) (f : MF) : Prop where
  ex : ∃ CA g fd, PySem.W.nsIn K mainGlobals C = some (some (.ref CA)) ∧ Cls K CA ∧ Meth K CA m g ∧ FnOk P w K mg base (L2N.CX P w) k g fd ps (spF K mg ps.length bs f) ∧ Binds K fd ps []
structure ObN (P : Program) (w : World) (K : PySem.W.Frag) (mg : Str → Option Value) (base : Heap) (C : Str) (k : Nat) (f : MF) : Prop where
  ex : ∃ CA g fd ps, PySem.W.nsIn K mainGlobals C = some (some (.ref CA)) ∧ mg C = some (.ref CA) ∧ Mk K CA g ∧ FnOk P w K mg base (L2N.CX P w) k g fd ps (spF K mg 1 [0] f) ∧ Binds K fd ps []
end Tm
set_option Elab.async false
set_option linter.all false
set_option maxRecDepth 100000
set_option maxHeartbeats 2000000
namespace Tm
open PySem L2
open Evl (Ex ex_rd ex_l ex_t)
def FnA (K : PySem.W.Frag) (a : Addr) : Prop := ∃ o, K.lookup a = some o ∧ o.cls = .type "function"
theorem FnA.ty {X : Cx} {pins : List (Addr × Obj)} {σ : St} {H : Hp} {s : Shared} {a : Addr} (I : Inv X pins σ H s) (h : FnA X.K a) : s.TypeIs (.ref a) "function" := by
  obtain ⟨o, h1, h2⟩ := h
  exact ⟨o, I.kIn _ _ h1, h2⟩
structure FnI (K : PySem.W.Frag) (N : List Str) : Prop where
  fn : ∀ x ∈ N, ∀ a, PySem.W.nsIn K mainGlobals x = some (some (.ref a)) → FnA K a
  inj : ∀ x ∈ N, ∀ y ∈ N, ∀ a, PySem.W.nsIn K mainGlobals x = some (some (.ref a)) → PySem.W.nsIn K mainGlobals y = some (some (.ref a)) → x = y
structure FnT (P : Program) (w : World) (K : PySem.W.Frag) (mg : Str → Option Value) (base : Heap) (T : List (Str × MF)) : Prop where
  ex : ∀ x f, T.lookup x = some f → ∀ a, PySem.W.nsIn K mainGlobals x = some (some (.ref a)) → ∃ fd ps, FnOk P w K mg base (L2N.CX P w) 2 a fd ps (spF K mg 1 [] f) ∧ PySem.W.keepIn K (.ref a) = true ∧ Binds K fd ps []
end Tm
set_option Elab.async false
set_option linter.all false
set_option maxRecDepth 100000
set_option maxHeartbeats 2000000
namespace Tm
open PySem L2
open Evl (Ex ex_rd ex_l ex_t)
section
variable {X : Cx} {c : Ct} {C x f : Str} {fl : List Str} {i : Nat} {p p2 pos apos cpos : Pos} {e : Expr} {es : List Expr}
structure FnG (K : PySem.W.Frag) (mg : Str → Option Value) (x : Str) : Prop where
  ex : ∃ a, mg x = some (.ref a) ∧ PySem.W.nsIn K mainGlobals x = some (some (.ref a))
end
end Tm
set_option Elab.async false
set_option linter.all false
set_option maxRecDepth 100000
set_option maxHeartbeats 2000000
namespace Tm
open PySem L2
open Evl (Ex ex_rd ex_l ex_t)
structure ObX (P : Program) (w : World) (K : PySem.W.Frag) (mg : Str → Option Value) (base : Heap) (C m : Str) (k : Nat) (ps : List Str) (sp : Sp) : Prop where
  ex : ∃ CA g fd, PySem.W.nsIn K mainGlobals C = some (some (.ref CA)) ∧ Cls K CA ∧ Meth K CA m g ∧ FnOk P w K mg base (L2N.CX P w) k g fd ps sp ∧ Binds K fd ps []
end Tm
set_option Elab.async false
set_option linter.all false
set_option maxRecDepth 100000
set_option maxHeartbeats 2000000
namespace Tm
open PySem L2
theorem nr {α : Sort _} {a b : α} (h : a = b) : a = b := h
section
variable {α β : Type} {a b : ME} {ρ ρ1 : Env} {r : Option MV} {x y z : MV}
@[simp] theorem bind_ok {x : α} {f : α → Env → Res (β × Env)} : (Res.ok (x, ρ)).bind f = f x ρ := nr rfl
@[simp] theorem bind_exc {e : MX} {f : α → Env → Res (β × Env)} : (Res.exc e ρ : Res (α × Env)).bind f = .exc e ρ := nr rfl
@[simp] theorem bind_stuck {f : α → Env → Res (β × Env)} : (Res.stuck : Res (α × Env)).bind f = .stuck := nr rfl
@[simp] theorem b0_ok {x : α} {f : α → Env → Res (β × Env)} : (Res.ok (x, ρ)).b0 f = f x ρ := nr rfl
@[simp] theorem mVar_ap {i : Nat} : mVar i (r :: ρ) = match (r :: ρ)[i]? with
  | some (some (.own xs)) => .ok (.lst xs, (r :: ρ).set i (some (.lst xs)))
  | some (some (.obj _ _)) => .stuck
  | some (some (.dow _ _)) => .stuck
  | some (some (.dot _ _)) => .stuck
  | some (some (.ols _)) => .stuck
  | some (some x) => .ok (x, (r :: ρ))
  | _ => .stuck := nr rfl
@[simp] theorem mC_ap  : mC x (r :: ρ) = .ok (x, (r :: ρ)) := nr rfl
@[simp] theorem mOp_ap {f : MV → MV → Option MV} : mOp f a b (r :: ρ) = (a (r :: ρ)).bind fun x ρ1 => (b ρ1).bind fun y ρ2 => match f x y with | some z => .ok (z, ρ2) | none => .stuck := nr rfl
@[simp] theorem mUn_ap {f : MV → Option MV} : mUn f a (r :: ρ) = (a (r :: ρ)).bind fun x ρ1 => match f x with | some z => .ok (z, ρ1) | none => .stuck := nr rfl
@[simp] theorem mTest_ap  : mTest a (r :: ρ) = (a (r :: ρ)).bind fun x ρ1 => match x with | .bl b => .ok (b, ρ1) | _ => .stuck := nr rfl
@[simp] theorem mChain_ap {f g : MV → MV → Option MV} {d : ME} : mChain f g a b d (r :: ρ) = (a (r :: ρ)).bind fun x ρ1 => (b ρ1).bind fun y ρ2 => match f x y with
  | some (.bl true) => (d ρ2).bind fun z ρ3 => match g y z with | some w => .ok (w, ρ3) | none => .stuck
  | some (.bl false) => .ok (.bl false, ρ2)
  | _ => .stuck := nr rfl
@[simp] theorem mAndT_ap {a b : MT} : mAndT a b (r :: ρ) = (a (r :: ρ)).bind fun x ρ1 => if x then b ρ1 else .ok (false, ρ1) := nr rfl
@[simp] theorem mOrT_ap {a b : MT} : mOrT a b (r :: ρ) = (a (r :: ρ)).bind fun x ρ1 => if x then .ok (true, ρ1) else b ρ1 := nr rfl
@[simp] theorem mNotT_ap {a : MT} : mNotT a (r :: ρ) = (a (r :: ρ)).bind fun x ρ1 => .ok (!x, ρ1) := nr rfl
@[simp] theorem mBv_ap {t : MT} : mBv t (r :: ρ) = (t (r :: ρ)).bind fun x ρ1 => .ok (.bl x, ρ1) := nr rfl
@[simp] theorem mNil_ap  : mNil (r :: ρ) = .ok ([], (r :: ρ)) := nr rfl
@[simp] theorem mCons_ap {b : MA} : mCons a b (r :: ρ) = (a (r :: ρ)).bind fun x ρ1 => (b ρ1).bind fun xs ρ2 => .ok (x :: xs, ρ2) := nr rfl
@[simp] theorem mTup_ap {a : MA} : mTup a (r :: ρ) = (a (r :: ρ)).bind fun xs ρ1 => if szOk xs.length then .ok (.tup xs, ρ1) else .stuck := nr rfl
@[simp] theorem mLst_ap {a : MA} : mLst a (r :: ρ) = (a (r :: ρ)).bind fun xs ρ1 => if szOk xs.length then .ok (.lst xs, ρ1) else .stuck := nr rfl
@[simp] theorem mLstO_ap {a : MA} : mLstO a (r :: ρ) = (a (r :: ρ)).bind fun xs ρ1 => if szOk xs.length then .ok (.own xs, ρ1) else .stuck := nr rfl
@[simp] theorem mIxV_ap {i : Nat} : mIxV i b (r :: ρ) = if has (r :: ρ) i then (b (r :: ρ)).bind fun y ρ1 => match ixV ρ1 i y with | some z => .ok (z, ρ1) | none => .stuck else .stuck := nr rfl
@[simp] theorem mNo_ap  : mNo (r :: ρ) = .ok (none, (r :: ρ)) := nr rfl
@[simp] theorem mPart_ap  : mPart a (r :: ρ) = (a (r :: ρ)).bind fun x ρ1 => match x with | .int i => .ok (some i, ρ1) | _ => .stuck := nr rfl
@[simp] theorem mSl_ap {l h : Env → Res (Option Int × Env)} : mSl a l h (r :: ρ) = (a (r :: ρ)).bind fun x ρ1 => (l ρ1).bind fun i ρ2 => (h ρ2).bind fun j ρ3 => match fSl x i j with | some z => .ok (z, ρ3) | none => .stuck := nr rfl
@[simp] theorem gSet_ap {i : Nat} : gSet i x (r :: ρ) = if i < (r :: ρ).length then some ((r :: ρ).set i (some x)) else none := nr rfl
@[simp] theorem gsNil_ap  : gsNil [] (r :: ρ) = some (r :: ρ) := nr rfl
@[simp] theorem gsCons_ap {g : MG} {h : List MV → Env → Option Env} {xs : List MV} : gsCons g h (x :: xs) (r :: ρ) = match g x (r :: ρ) with | some ρ1 => h xs ρ1 | none => none := nr rfl
@[simp] theorem gTp_tup {n : Nat} {h : List MV → Env → Option Env} {xs : List MV} : gTp n h (.tup xs) ρ = if xs.length = n then h xs ρ else none := nr rfl
@[simp] theorem gTp_lst {n : Nat} {h : List MV → Env → Option Env} {xs : List MV} : gTp n h (.lst xs) ρ = if xs.length = n then h xs ρ else none := nr rfl
@[simp] theorem mAsg_ap {g : MG} : mAsg a g (r :: ρ) = (a (r :: ρ)).bind fun x ρ1 => match g x ρ1 with | some ρ2 => .ok (.nx, ρ2) | none => .stuck := nr rfl
@[simp] theorem mSetO_ap {i : Nat} : mSetO i a (r :: ρ) = (a (r :: ρ)).bind fun x ρ1 => if i < ρ1.length then .ok (.nx, ρ1.set i (some x)) else .stuck := nr rfl
@[simp] theorem mPass_ap  : mPass (r :: ρ) = .ok (.nx, (r :: ρ)) := nr rfl
@[simp] theorem mSeq_ap {a b : MS} : mSeq a b (r :: ρ) = (a (r :: ρ)).bind fun f ρ1 => match f with | .nx => b ρ1 | f => .ok (f, ρ1) := nr rfl
@[simp] theorem mIfS_ap {t : MT} {a b : MS} : mIfS t a b (r :: ρ) = (t (r :: ρ)).bind fun x ρ1 => if x then a ρ1 else b ρ1 := nr rfl
@[simp] theorem mRet_ap  : mRet a (r :: ρ) = (a (r :: ρ)).bind fun x ρ1 => .ok (.rt x, ρ1) := nr rfl
@[simp] theorem mDrop_ap  : mDrop a (r :: ρ) = (a (r :: ρ)).bind fun _ ρ1 => .ok (.nx, ρ1) := nr rfl
@[simp] theorem mMove_ap {i : Nat} : mMove i (r :: ρ) = match (r :: ρ)[i]? with
  | some (some (.obj _ _)) => .stuck
  | some (some x) => .ok (x, (r :: ρ).set i none)
  | _ => .stuck := nr rfl
@[simp] theorem mFz_ap  : mFz a (r :: ρ) = (a (r :: ρ)).bind fun x ρ1 => match fz x with | some y => .ok (y, ρ1) | none => .stuck := nr rfl
@[simp] theorem mCall_ap {f : MF} {a : MA} : mCall f a (r :: ρ) = (a (r :: ρ)).bind fun xs ρ1 => match f xs with
  | .ok (v, _) => .ok (v, ρ1)
  | .exc e _ => .exc e ρ1
  | .stuck => .stuck := nr rfl
@[simp] theorem mCall0_ap {f : MF} {a : MA} : mCall0 f a (r :: ρ) = (a (r :: ρ)).bind fun xs ρ1 => match f xs with
  | .ok (v, _) => .ok (v, ρ1)
  | _ => .stuck := nr rfl
@[simp] theorem mBlt_ap {f : List MV → Option MV} {a : MA} : mBlt f a (r :: ρ) = (a (r :: ρ)).bind fun xs ρ1 => match f xs with | some z => .ok (z, ρ1) | none => .stuck := nr rfl
@[simp] theorem mListO_ap {a : MA} : mListO a (r :: ρ) = (a (r :: ρ)).bind fun xs ρ1 => match bList xs with | some (.lst ys) => .ok (.own ys, ρ1) | _ => .stuck := nr rfl
def r1M (xs : List MV) (ρ1 : Env) : Res (List MV × Env) := match xs with
  | [.int j] => if inR j then .ok (rngM 0 1 j.toNat, ρ1) else .stuck
  | _ => .stuck
@[simp] theorem mR1_ap {a : MA} : mR1 a (r :: ρ) = (a (r :: ρ)).bind r1M := nr rfl
@[simp] theorem r1M_i {j : Int} (h : inR j = true) : r1M [.int j] ρ = .ok (rngM 0 1 j.toNat, ρ) := if_pos h
def r3M (xs : List MV) (ρ1 : Env) : Res (List MV × Env) := match xs with
  | [.int i, .int j, .int k] => if rgOk i j k then .ok (rngM i k (Builtin.Range.rangeSize i j k).toNat, ρ1) else .stuck
  | _ => .stuck
@[simp] theorem mR3_ap {a : MA} : mR3 a (r :: ρ) = (a (r :: ρ)).bind r3M := nr rfl
@[simp] theorem r3M_i {i j k : Int} (h : rgOk i j k = true) : r3M [.int i, .int j, .int k] ρ = .ok (rngM i k (Builtin.Range.rangeSize i j k).toNat, ρ) := if_pos h
def lmM (f : List MV → List MV → Option (List MV × MV)) (i : Nat) (ys : List MV) (ρ1 : Env) : Res (MV × Env) := match ρ1[i]? with
  | some (some (.own xs)) => (match f xs ys with | some (zs, z) => .ok (z, ρ1.set i (some (.own zs))) | none => .stuck)
  | _ => .stuck
@[simp] theorem mLm_ap {f : List MV → List MV → Option (List MV × MV)} {i : Nat} {a : MA} : mLm f i a (r :: ρ) = if isOwn (r :: ρ) i then (a (r :: ρ)).bind (lmM f i) else .stuck := nr rfl
@[simp] theorem lmM_o {f : List MV → List MV → Option (List MV × MV)} {i : Nat} {xs ys : List MV} (h : ρ[i]? = some (some (.own xs))) : lmM f i ys ρ = (match f xs ys with | some (zs, z) => .ok (z, ρ.set i (some (.own zs))) | none => .stuck) := by unfold lmM; rw [h]
@[simp] theorem isOwn_o {i : Nat} {xs : List MV} (h : ρ[i]? = some (some (.own xs))) : isOwn ρ i = true := by unfold isOwn; rw [h]
@[simp] theorem has_o {i : Nat} {x : MV} (h : ρ[i]? = some (some x)) : has ρ i = true := by unfold has; rw [h]
def setIxM (i : Nat) (z y : MV) (ρ2 : Env) : Res (Fl × Env) := match ρ2[i]?, y with
  | some (some (.own xs)), .int k => (match ixN xs.length k with | some j => .ok (.nx, ρ2.set i (some (.own (xs.set j z)))) | none => .stuck)
  | _, _ => .stuck
@[simp] theorem mSetIx_ap {i : Nat} : mSetIx i a b (r :: ρ) = (a (r :: ρ)).bind fun z ρ1 => if has ρ1 i then (b ρ1).bind (setIxM i z) else .stuck := nr rfl
theorem setIxM_o {i : Nat} {z : MV} {xs : List MV} {k : Int} {j : Nat} (h : ρ[i]? = some (some (.own xs))) (h2 : ixN xs.length k = some j) : setIxM i z (.int k) ρ = .ok (.nx, ρ.set i (some (.own (xs.set j z)))) := by unfold setIxM; rw [h]; simp only [h2]
def augM (f : MV → MV → Option MV) (i : Nat) (x y : MV) (ρ1 : Env) : Res (Fl × Env) := match f x y with
  | some z => if decide (i < ρ1.length) && flatM z then .ok (.nx, ρ1.set i (some z)) else .stuck
  | none => .stuck
theorem mAug_ap {f : MV → MV → Option MV} {i : Nat} {x : MV} (h : ρ[i]? = some (some x)) (h2 : flatM x = true) : mAug f i a ρ = (a ρ).bind (augM f i x) := by
  unfold mAug
  rw [h]
  simp only [h2, if_true]
  rfl
@[simp] theorem mAug_i {f : MV → MV → Option MV} {i : Nat} {k : Int} (h : (r :: ρ)[i]? = some (some (.int k))) : mAug f i a (r :: ρ) = (a (r :: ρ)).bind (augM f i (.int k)) := mAug_ap h rfl
@[simp] theorem augM_i {f : MV → MV → Option MV} {i : Nat} {k j : Int} : augM f i (.int k) (.int j) (r :: ρ) = (match f (.int k) (.int j) with | some z => if decide (i < (r :: ρ).length) && flatM z then .ok (.nx, (r :: ρ).set i (some z)) else .stuck | none => .stuck) := nr rfl
@[simp] theorem flatM_i {k : Int} : flatM (.int k) = true := nr rfl
@[simp] theorem mItV_ap  : mItV a (r :: ρ) = (a (r :: ρ)).bind fun x ρ1 => match itemsOf x with | some xs => .ok (xs, ρ1) | none => .stuck := nr rfl
@[simp] theorem mZip_ap {a : MA} : mZip a (r :: ρ) = (a (r :: ρ)).bind fun xs ρ1 => match xs with
  | [x, y] => (match zitM x, zitM y with | some xs, some ys => .ok (zipM xs ys, ρ1) | _, _ => .stuck)
  | _ => .stuck := nr rfl
@[simp] theorem zitM_l {xs : List MV} : zitM (.lst xs) = some xs := nr rfl
@[simp] theorem zitM_t {xs : List MV} : zitM (.tup xs) = some xs := nr rfl
@[simp] theorem zitM_s {z : Str} : zitM (.str z) = some (signsM z) := nr rfl
@[simp] theorem mYes_ap  : mYes (r :: ρ) = .ok (true, (r :: ρ)) := nr rfl
@[simp] theorem mFor_ap {i : MI} {g : MG} {b : MS} : mFor i g b (r :: ρ) = (i (r :: ρ)).bind fun xs ρ1 => mLoop g b xs ρ1 := nr rfl
@[simp] theorem mLcO_ap {it : MI} {g : Tgt} {t : MT} {vs : List Nat} : mLcO it g t a vs (r :: ρ) = (it (r :: ρ)).bind fun xs ρ1 => if perAt ρ1 vs then (mLcLoop g t a vs xs [] ρ1).b0 fun ys ρ2 => .ok (.own ys, backM ρ1 ρ2 vs) else .stuck := nr rfl
end
@[simp] theorem fz_lst {xs : List MV} : fz (.lst xs) = some (.lst xs) := nr rfl
@[simp] theorem fz_own {xs : List MV} : fz (.own xs) = some (.lst xs) := nr rfl
@[simp] theorem fz_tup {xs : List MV} : fz (.tup xs) = some (.tup xs) := nr rfl
@[simp] theorem fz_int {i : Int} : fz (.int i) = some (.int i) := nr rfl
@[simp] theorem fz_bl {i : Bool} : fz (.bl i) = some (.bl i) := nr rfl
@[simp] theorem fz_str {i : Str} : fz (.str i) = some (.str i) := nr rfl
@[simp] theorem fz_non : fz .non = some .non := nr rfl
@[simp] theorem fz_scr {i : List Int} : fz (.scr i) = some (.scr i) := nr rfl
section
variable {i j : Int}
@[simp] theorem fAdd_ii : fAdd (.int i) (.int j) = some (.int (i + j)) := nr rfl
@[simp] theorem fAdd_ss {a b : Str} : fAdd (.str a) (.str b) = if szOk (a.length + b.length) then some (.str (a ++ b)) else none := nr rfl
@[simp] theorem fAdd_ll {a b : List MV} : fAdd (.lst a) (.lst b) = if szOk (a.length + b.length) then some (.lst (a ++ b)) else none := nr rfl
@[simp] theorem fAdd_tt {a b : List MV} : fAdd (.tup a) (.tup b) = if szOk (a.length + b.length) then some (.tup (a ++ b)) else none := nr rfl
@[simp] theorem fSub_ii : fSub (.int i) (.int j) = some (.int (i - j)) := nr rfl
@[simp] theorem fMul_ii : fMul (.int i) (.int j) = if mulOk i j then some (.int (i * j)) else none := nr rfl
@[simp] theorem fDiv_ii : fDiv (.int i) (.int j) = if divOk j then some (.int (i.fdiv j)) else none := nr rfl
@[simp] theorem fMod_ii : fMod (.int i) (.int j) = if decide (j ≠ 0) then some (.int (i.fmod j)) else none := nr rfl
@[simp] theorem fPow_ii : fPow (.int i) (.int j) = if decide (0 ≤ j) && decide (j ≤ 1000000) && decide (i.natAbs < 2 ^ 64) then some (.int (i ^ j.toNat)) else none := nr rfl
@[simp] theorem fLt_ii : fLt (.int i) (.int j) = some (.bl (decide (i < j))) := nr rfl
@[simp] theorem fLe_ii : fLe (.int i) (.int j) = some (.bl (decide (i ≤ j))) := nr rfl
@[simp] theorem fGt_ii : fGt (.int i) (.int j) = some (.bl (decide (j < i))) := nr rfl
@[simp] theorem fGe_ii : fGe (.int i) (.int j) = some (.bl (decide (j ≤ i))) := nr rfl
@[simp] theorem fNeg_i : fNeg (.int i) = some (.int (-i)) := nr rfl
@[simp] theorem fAddI_ii : fAddI (.int i) (.int j) = some (.int (i + j)) := nr rfl
@[simp] theorem fEq_ii : fEq (.int i) (.int j) = some (.bl (decide (i = j))) := nr rfl
@[simp] theorem fNe_ii : fNe (.int i) (.int j) = some (.bl (!decide (i = j))) := nr rfl
@[simp] theorem fEq_ss {a b : Str} : fEq (.str a) (.str b) = some (.bl (decide (a = b))) := nr rfl
@[simp] theorem fNe_ss {a b : Str} : fNe (.str a) (.str b) = some (.bl (!decide (a = b))) := nr rfl
@[simp] theorem bLen_l {a : List MV} : bLen [.lst a] = some (.int a.length) := nr rfl
@[simp] theorem bLen_t {a : List MV} : bLen [.tup a] = some (.int a.length) := nr rfl
@[simp] theorem bLen_c {a : List Int} : bLen [.scr a] = some (.int a.length) := nr rfl
@[simp] theorem bAbs_i : bAbs [.int i] = some (.int (if i < 0 then -i else i)) := nr rfl
@[simp] theorem bMax_i : bMax [.int i, .int j] = some (.int (if j > i then j else i)) := nr rfl
@[simp] theorem bInt_i : bInt [.int i] = some (.int i) := nr rfl
@[simp] theorem bInt_b {k : Bool} : bInt [.bl k] = some (.int (if k then 1 else 0)) := nr rfl
@[simp] theorem fIx_l {a : List MV} : fIx (.lst a) (.int i) = atI a i := nr rfl
@[simp] theorem fIx_t {a : List MV} : fIx (.tup a) (.int i) = atI a i := nr rfl
@[simp] theorem fIx_c {a : List Int} : fIx (.scr a) (.int i) = (atI a i).map .int := nr rfl
@[simp] theorem ixL_i {a : List MV} : ixL a (.int i) = atI a i := nr rfl
@[simp] theorem itemsOf_l {a : List MV} : itemsOf (.lst a) = some a := nr rfl
@[simp] theorem itemsOf_t {a : List MV} : itemsOf (.tup a) = some a := nr rfl
@[simp] theorem itemsOf_c {a : List Int} : itemsOf (.scr a) = some (a.map .int) := nr rfl
@[simp] theorem bTuple_l {a : List MV} : bTuple [.lst a] = some (.tup a) := nr rfl
@[simp] theorem bTuple_t {a : List MV} : bTuple [.tup a] = some (.tup a) := nr rfl
@[simp] theorem lmAppend_1 {a : List MV} {y : MV} : lmAppend a [y] = if decide (a.length < sizeLine) then some (a ++ [y], .non) else none := nr rfl
end
@[simp] theorem nat_neg {k : Nat} : ((k : Int) < 0) = False := by simp
@[simp] theorem nat_toNat {k : Nat} : ((k : Int)).toNat = k := nr rfl
theorem szOk_small {n : Nat} (h : n ≤ 16777216) : szOk n = true := szOk_iff.mpr (by rw [sizeLine_eq]; exact h)
theorem atI_ge {α : Type} {xs : List α} {i : Int} (h : 0 ≤ i) : atI xs i = xs[i.toNat]? := by
  unfold atI ixN
  rw [if_pos h]
  by_cases e : i < xs.length
  · rw [if_pos e]; rfl
  · rw [if_neg e, List.getElem?_eq_none (by omega)]; rfl
@[simp] theorem atI_0 {α : Type} {xs : List α} : atI xs 0 = xs[0]? := atI_ge (by decide)
@[simp] theorem atI_1 {α : Type} {xs : List α} : atI xs 1 = xs[1]? := atI_ge (by decide)
@[simp] theorem atI_2 {α : Type} {xs : List α} : atI xs 2 = xs[2]? := atI_ge (by decide)
@[simp] theorem atI_3 {α : Type} {xs : List α} : atI xs 3 = xs[3]? := atI_ge (by decide)
@[simp] theorem atI_4 {α : Type} {xs : List α} : atI xs 4 = xs[4]? := atI_ge (by decide)
@[simp] theorem atI_5 {α : Type} {xs : List α} : atI xs 5 = xs[5]? := atI_ge (by decide)
@[simp] theorem atI_6 {α : Type} {xs : List α} : atI xs 6 = xs[6]? := atI_ge (by decide)
@[simp] theorem atI_7 {α : Type} {xs : List α} : atI xs 7 = xs[7]? := atI_ge (by decide)
@[simp] theorem atI_8 {α : Type} {xs : List α} : atI xs 8 = xs[8]? := atI_ge (by decide)
@[simp] theorem atI_9 {α : Type} {xs : List α} : atI xs 9 = xs[9]? := atI_ge (by decide)
@[simp] theorem atI_10 {α : Type} {xs : List α} : atI xs 10 = xs[10]? := atI_ge (by decide)
@[simp] theorem atI_11 {α : Type} {xs : List α} : atI xs 11 = xs[11]? := atI_ge (by decide)
@[simp] theorem atI_12 {α : Type} {xs : List α} : atI xs 12 = xs[12]? := atI_ge (by decide)
@[simp] theorem atI_13 {α : Type} {xs : List α} : atI xs 13 = xs[13]? := atI_ge (by decide)
@[simp] theorem atI_14 {α : Type} {xs : List α} : atI xs 14 = xs[14]? := atI_ge (by decide)
@[simp] theorem atI_15 {α : Type} {xs : List α} : atI xs 15 = xs[15]? := atI_ge (by decide)
theorem mulOk_l {i j : Int} (h1 : -(2 ^ 64) < i) (h2 : i < 2 ^ 64) : mulOk i j = true := by simp only [mulOk, Bool.or_eq_true, Bool.and_eq_true, decide_eq_true_eq]; exact .inl (.inl ⟨h1, h2⟩)
theorem mulOk_r {i j : Int} (h1 : -(2 ^ 64) < j) (h2 : j < 2 ^ 64) : mulOk i j = true := by simp only [mulOk, Bool.or_eq_true, Bool.and_eq_true, decide_eq_true_eq]; exact .inl (.inr ⟨h1, h2⟩)
theorem inR_of {i : Int} (h1 : -(2 ^ 62) ≤ i) (h2 : i < 2 ^ 62) : inR i = true := inR_iff.mpr ⟨h1, h2⟩
theorem loop_inv {g : MG} {b : MS} (I : Nat → Env → Prop) : ∀ (xs : List MV) (k : Nat) (ρ : Env), I k ρ → (∀ i x ρ, xs[i]? = some x → I (k + i) ρ → ∃ ρ1 ρ2, g x ρ = some ρ1 ∧ (b ρ1 = .ok (.nx, ρ2) ∨ b ρ1 = .ok (.ct, ρ2)) ∧ I (k + i + 1) ρ2) → ∃ ρ', mLoop g b xs ρ = .ok (.nx, ρ') ∧ I (k + xs.length) ρ'
  | [], k, ρ, h, _ => ⟨ρ, rfl, h⟩
  | x :: xs, k, ρ, h, hs => by
    obtain ⟨ρ1, ρ2, e1, e2, h2⟩ := hs 0 x ρ rfl h
    obtain ⟨ρ', e3, h3⟩ := loop_inv I xs (k + 1) ρ2 h2 (fun i y ρ hy hi => by
      have := hs (i + 1) y ρ (by simpa using hy) (by rw [show k + (i + 1) = k + 1 + i by omega]; exact hi)
      rw [show k + 1 + i + 1 = k + (i + 1) + 1 by omega]
      exact this)
    refine ⟨ρ', ?_, by rw [List.length_cons, show k + (xs.length + 1) = k + 1 + xs.length by omega]; exact h3⟩
    unfold mLoop
    rw [e1]
    rcases e2 with e2 | e2 <;> (simp only [e2, bind_ok]; exact e3)
theorem loop_rng {g : MG} {b : MS} {lo c : Int} {n : Nat} {ρ : Env} (I : Nat → Env → Prop) (h0 : I 0 ρ) (hs : ∀ i ρ, i < n → I i ρ → ∃ ρ1 ρ2, g (.int (lo + (i : Nat) * c)) ρ = some ρ1 ∧ (b ρ1 = .ok (.nx, ρ2) ∨ b ρ1 = .ok (.ct, ρ2)) ∧ I (i + 1) ρ2) :
    ∃ ρ', mLoop g b (rngM lo c n) ρ = .ok (.nx, ρ') ∧ I n ρ' := by
  obtain ⟨ρ', e, h⟩ := loop_inv I (rngM lo c n) 0 ρ h0 fun i x ρ hx hi => by
    have li := lt_get hx
    rw [rngM_len] at li
    rw [rngM_get li] at hx
    cases hx
    have := hs i ρ li (by simpa using hi)
    simpa using this
  rw [rngM_len, Nat.zero_add] at h
  exact ⟨ρ', e, h⟩
theorem loop_nxr {g : MG} {b : MS} {lo c : Int} {n : Nat} {ρ : Env} (I : Nat → Env → Prop) (h0 : I 0 ρ) (hs : ∀ i ρ, i < n → I i ρ → ∃ ρ1, g (.int (lo + (i : Nat) * c)) ρ = some ρ1 ∧ ∃ ρ2, b ρ1 = .ok (.nx, ρ2) ∧ I (i + 1) ρ2) :
    ∃ ρ', mLoop g b (rngM lo c n) ρ = .ok (.nx, ρ') ∧ I n ρ' := by
  refine loop_rng I h0 fun i ρ hi h => ?_
  obtain ⟨ρ1, e, ρ2, e2, h⟩ := hs i ρ hi h
  exact ⟨ρ1, ρ2, e, .inl e2, h⟩
def okD : Nat → MV → Bool
  | _, .non => true
  | _, .bl _ => true
  | _, .int _ => true
  | _, .str x => (PyData.str x).canLay0
  | n + 1, .tup xs => xs.all (okD n)
  | n + 1, .lst xs => xs.all (okD n)
  | _, _ => false
theorem okDs_to {n : Nat} (ih : ∀ x, okD n x = true → ∃ d, toD x = some d ∧ d.canLay0 = true ∧ d.depth ≤ n) : ∀ xs : List MV, xs.all (okD n) = true → ∃ ds, toDs xs = some ds ∧ PyData.canLayAll0 ds = true ∧ PyData.depthAll ds ≤ n
  | [], _ => ⟨[], rfl, by simp [PyData.canLayAll0], by simp [PyData.depthAll]⟩
  | x :: xs, h => by
    simp only [List.all_cons, Bool.and_eq_true] at h
    obtain ⟨d, e, c, p⟩ := ih x h.1
    obtain ⟨ds, es, cs, ps⟩ := okDs_to ih xs h.2
    refine ⟨d :: ds, by simp [toDs, e, es], by simp [PyData.canLayAll0, c, cs], by simp only [PyData.depthAll]; omega⟩
theorem okD_to : ∀ (n : Nat) (x : MV), okD n x = true → ∃ d, toD x = some d ∧ d.canLay0 = true ∧ d.depth ≤ n
  | n, .non, _ => ⟨_, rfl, rfl, by simp [PyData.depth]⟩
  | n, .bl _, _ => ⟨_, rfl, rfl, by simp [PyData.depth]⟩
  | n, .int _, _ => ⟨_, rfl, rfl, by simp [PyData.depth]⟩
  | n, .str x, h => ⟨.str x, rfl, by cases n <;> exact h, by simp [PyData.depth]⟩
  | 0, .tup _, h => by simp [okD] at h
  | 0, .lst _, h => by simp [okD] at h
  | n + 1, .tup xs, h => by
    obtain ⟨ds, e, c, p⟩ := okDs_to (okD_to n) xs h
    exact ⟨.tuple ds, by simp [toD, e], by simpa [PyData.canLay0] using c, by simp only [PyData.depth]; omega⟩
  | n + 1, .lst xs, h => by
    obtain ⟨ds, e, c, p⟩ := okDs_to (okD_to n) xs h
    exact ⟨.list ds, by simp [toD, e], by simpa [PyData.canLay0] using c, by simp only [PyData.depth]; omega⟩
  | n, .own _, h => by cases n <;> simp [okD] at h
  | n, .raw _, h => by cases n <;> simp [okD] at h
  | n, .scr _, h => by cases n <;> simp [okD] at h
  | n, .fnc _, h => by cases n <;> simp [okD] at h
  | n, .obj _ _, h => by cases n <;> simp [okD] at h
  | n, .dct _ _, h => by cases n <;> simp [okD] at h
  | n, .dow _ _, h => by cases n <;> simp [okD] at h
  | n, .dot _ _, h => by cases n <;> simp [okD] at h
  | n, .ols _, h => by cases n <;> simp [okD] at h
  | n, .exn _ _, h => by cases n <;> simp [okD] at h
theorem eqM_self {n : Nat} {x : MV} (hn : n ≤ 64) (h : okD n x = true) : eqM x x = some true := by
  unfold eqM
  by_cases hs : scalM x x = true
  · rw [if_pos hs]
    cases x <;> simp_all [scalM, sameM]
  · rw [if_neg hs]
    obtain ⟨d, e, c, p⟩ := okD_to n x h
    have hd : SeqAt.shaped d = true := by
      unfold SeqAt.shaped
      rw [c]
      simp
      omega
    rw [e]
    simp only [hd, Bool.and_self, if_true]
    rw [SeqAt.eqv_refl d c]
@[simp] theorem fEq_tt {xs : List MV} (h : xs.all (okD 20) = true) : fEq (.tup xs) (.tup xs) = some (.bl true) := by unfold fEq; rw [eqM_self (n := 21) (by decide) (x := .tup xs) h]; rfl
@[simp] theorem fNe_tt {xs : List MV} (h : xs.all (okD 20) = true) : fNe (.tup xs) (.tup xs) = some (.bl false) := by unfold fNe; rw [eqM_self (n := 21) (by decide) (x := .tup xs) h]; rfl
@[simp] theorem fEq_lle {xs : List MV} (h : xs.all (okD 20) = true) : fEq (.lst xs) (.lst xs) = some (.bl true) := by unfold fEq; rw [eqM_self (n := 21) (by decide) (x := .lst xs) h]; rfl
@[simp] theorem fNe_lle {xs : List MV} (h : xs.all (okD 20) = true) : fNe (.lst xs) (.lst xs) = some (.bl false) := by unfold fNe; rw [eqM_self (n := 21) (by decide) (x := .lst xs) h]; rfl
@[simp] theorem okD_i {n : Nat} {i : Int} : okD n (.int i) = true := by cases n <;> rfl
@[simp] theorem okD_b {n : Nat} {i : Bool} : okD n (.bl i) = true := by cases n <;> rfl
@[simp] theorem okD_n {n : Nat} : okD n .non = true := by cases n <;> rfl
@[simp] theorem fSl_t {xs : List MV} {lo hi : Option Int} : fSl (.tup xs) lo hi = some (.tup (cutM xs lo hi)) := nr rfl
@[simp] theorem fSl_l {xs : List MV} {lo hi : Option Int} : fSl (.lst xs) lo hi = some (.lst (cutM xs lo hi)) := nr rfl
@[simp] theorem cutM_none {xs : List MV} : cutM xs none none = xs := by simp [cutM, HT.sIx]
theorem cutM_to {xs : List MV} {k : Int} (h : 0 ≤ k) : cutM xs none (some k) = xs.take k.toNat := by
  simp [cutM, HT.sIx, show ¬ k < 0 by omega, List.take_eq_take_min]
theorem cutM_from {xs : List MV} {k : Int} (h : 0 ≤ k) : cutM xs (some k) none = xs.drop k.toNat := by
  simp [cutM, HT.sIx, show ¬ k < 0 by omega]
  by_cases e : k.toNat ≤ xs.length
  · rw [Nat.min_eq_left e, List.take_of_length_le (by simp)]
  · rw [Nat.min_eq_right (by omega), List.drop_of_length_le (by omega), List.drop_of_length_le (by omega)]; simp
end Tm
set_option Elab.async false
set_option linter.all false
set_option maxRecDepth 100000
set_option maxHeartbeats 2000000
namespace Tm
open PySem L2
@[simp] theorem mRevA_ap {a : ME} {r : Option MV} {ρ : Env} : mRevA a (r :: ρ) = (a (r :: ρ)).bind fun x ρ1 => match fRevA x with | some z => .ok (z, ρ1) | none => .stuck := nr rfl
@[simp] theorem fRevA_l {a : List MV} : fRevA (.lst a) = some (.lst a.reverse) := nr rfl
@[simp] theorem fRevA_t {a : List MV} : fRevA (.tup a) = some (.tup a.reverse) := nr rfl
theorem mFn_ok {n : Nat} {m : MS} {xs : List MV} {v : MV} (h : ∃ ρ, m (xs.map some ++ List.replicate (n - xs.length) none) = .ok (.rt v, ρ)) : mFn n [] m xs = .ok (v, []) := by
  obtain ⟨ρ, h⟩ := h
  unfold mFn; rw [h]; rfl
theorem fmod_lt' {a b : Int} (h : 0 < b) : a.fmod b < b := Int.fmod_lt_of_pos a h
theorem fmod_ge' {a b : Int} (h : 0 < b) : 0 ≤ a.fmod b := Int.fmod_nonneg_of_pos a h
theorem nat_fmod (a b : Nat) : (a : Int).fmod (b : Int) = ((a % b : Nat) : Int) := by rw [Int.fmod_eq_emod_of_nonneg _ (Int.natCast_nonneg b)]; exact (Int.natCast_emod a b).symm
theorem nat_fdiv (a b : Nat) : (a : Int).fdiv (b : Int) = ((a / b : Nat) : Int) := by rw [Int.fdiv_eq_ediv_of_nonneg _ (Int.natCast_nonneg b)]; exact (Int.natCast_ediv a b).symm
theorem back_wipe : ∀ (vs : List Nat) (ρ ρ' : Env), ρ.length = ρ'.length → (∀ j, j ∉ vs → ρ'[j]? = ρ[j]?) → backM ρ ρ' vs = ρ := by
  have key : ∀ (vs : List Nat) (ρ ρ' : Env) (j : Nat), ρ.length = ρ'.length → (backM ρ ρ' vs)[j]? = if j ∈ vs then ρ[j]? else ρ'[j]? := by
    intro vs
    induction vs with
    | nil => intro ρ ρ' j hl; simp [backM]
    | cons v vs ih =>
      intro ρ ρ' j hl
      show (backM ρ (ρ'.set v ((ρ[v]?).join)) vs)[j]? = _
      rw [ih ρ _ j (by simp [hl])]
      by_cases e : j ∈ vs
      · simp [e]
      · by_cases e2 : j = v
        · subst e2
          by_cases hlt : j < ρ'.length
          · simp [e, List.getElem?_set_self hlt, show j < ρ.length by omega]
          · simp [e, List.getElem?_eq_none (show ρ'.length ≤ j by omega), List.getElem?_eq_none (show ρ.length ≤ j by omega)]
            omega
        · simp [e, e2, List.getElem?_set_ne (Ne.symm e2)]
  intro vs ρ ρ' hl h
  apply List.ext_getElem?
  intro j
  rw [key vs ρ ρ' j hl]
  by_cases e : j ∈ vs
  · simp [e]
  · simp [e, h j e]
theorem wipe_other {ρ ρ' : Env} {vs : List Nat} (hl : ρ.length = ρ'.length) (h : wipeM ρ' vs = wipeM ρ vs) : ∀ j, j ∉ vs → ρ'[j]? = ρ[j]? := by
  intro j hj
  have h1 := wipeM_get ρ vs j
  have h2 := wipeM_get ρ' vs j
  rw [if_neg (by simp [hj])] at h1 h2
  rw [← h1, ← h2, h]
theorem lc_map {g : Tgt} {e : ME} {vs : List Nat} {W : Env} (y : MV → MV) : ∀ (xs acc : List MV) (ρ : Env), (∀ x ∈ xs, ∃ ρ1, setT g x W = some ρ1 ∧ e ρ1 = .ok (y x, ρ1) ∧ wipeM ρ1 vs = W ∧ ρ1.length = W.length) → wipeM ρ vs = W → ρ.length = W.length → acc.length + xs.length ≤ sizeLine →
    ∃ ρ', mLcLoop g mYes e vs xs acc ρ = .ok (acc ++ xs.map y, ρ') ∧ wipeM ρ' vs = W ∧ ρ'.length = W.length
  | [], acc, ρ, _, hw, hl, _ => ⟨ρ, by simp [mLcLoop], hw, hl⟩
  | x :: xs, acc, ρ, h, hw, hl, hz => by
    obtain ⟨ρ1, e1, e2, e3, e4⟩ := h x (List.mem_cons_self ..)
    rw [List.length_cons] at hz
    obtain ⟨ρ', r1, r2, r3⟩ := lc_map (g := g) (e := e) (vs := vs) y xs (acc ++ [y x]) ρ1 (fun z hz => h z (List.mem_cons_of_mem _ hz)) e3 e4 (by rw [List.length_append, List.length_singleton]; omega)
    refine ⟨ρ', ?_, r2, r3⟩
    unfold mLcLoop
    rw [hw, e1]
    simp only [mYes, b0_ok, if_true, e2]
    rw [if_pos ⟨by omega, by rw [e4, hl]⟩, r1]
    simp
theorem mLcO_map {it : MI} {g : Tgt} {e : ME} {vs : List Nat} {ρ ρ1 : Env} {xs : List MV} (y : MV → MV) (hi : it ρ = .ok (xs, ρ1)) (hp : perAt ρ1 vs = true) (hx : ∀ x ∈ xs, ∃ ρ2, setT g x (wipeM ρ1 vs) = some ρ2 ∧ e ρ2 = .ok (y x, ρ2) ∧ wipeM ρ2 vs = wipeM ρ1 vs ∧ ρ2.length = ρ1.length) (hz : xs.length ≤ sizeLine) :
    mLcO it g mYes e vs ρ = .ok (.own (xs.map y), ρ1) := by
  obtain ⟨ρ', r1, r2, r3⟩ := lc_map (g := g) (e := e) (vs := vs) (W := wipeM ρ1 vs) y xs [] ρ1 (fun x h => by
    obtain ⟨ρ2, a, b, c, d⟩ := hx x h
    exact ⟨ρ2, a, b, c, by rw [d, wipeM_len]⟩) rfl (wipeM_len ..).symm (by simpa using hz)
  unfold mLcO
  rw [hi, bind_ok, if_pos hp, r1]
  simp only [b0_ok, List.nil_append]
  rw [back_wipe vs ρ1 ρ' (by rw [r3, wipeM_len]) (wipe_other (by rw [r3, wipeM_len]) r2)]
def digs : Nat → Nat → List Nat
  | 0, _ => []
  | k + 1, n => n % 10 :: digs k (n / 10)
def digsB (k n : Nat) : List Nat := (digs k n).reverse
theorem digs_len : ∀ k n, (digs k n).length = k
  | 0, _ => rfl
  | k + 1, n => by simp [digs, digs_len k]
theorem digsB_len (k n : Nat) : (digsB k n).length = k := by simp [digsB, digs_len]
theorem digs_append : ∀ (k n : Nat), digs (k + 1) n = digs k n ++ [n / 10 ^ k % 10]
  | 0, n => by simp [digs]
  | k + 1, n => by
    rw [digs, digs_append k (n / 10)]
    show _ = (n % 10 :: digs k (n / 10)) ++ _
    rw [List.cons_append, Nat.div_div_eq_div_mul, Nat.pow_succ, Nat.mul_comm (10 ^ k) 10]
theorem loop_jx {σ β α : Type} {g : MG} {b : MS} (env : σ → β → Env) (item : α → MV) (f : σ → α → σ) (I : Nat → σ → Prop) : ∀ (xs : List α) (k : Nat) (s : σ) (z : β), I k s → (∀ i s z x, x ∈ xs → I i s → i < k + xs.length → (∃ ρ1, g (item x) (env s z) = some ρ1 ∧ ∃ z', b ρ1 = .ok (.nx, env (f s x) z')) ∧ I (i + 1) (f s x)) →
    (∃ z', mLoop g b (xs.map item) (env s z) = .ok (.nx, env (xs.foldl f s) z')) ∧ I (k + xs.length) (xs.foldl f s)
  | [], k, s, z, h, _ => ⟨⟨z, rfl⟩, h⟩
  | x :: xs, k, s, z, h, hs => by
    obtain ⟨⟨ρ1, e1, z', e2⟩, h2⟩ := hs k s z x (List.mem_cons_self ..) h (by simp)
    have := loop_jx (g := g) (b := b) env item f I xs (k + 1) (f s x) z' h2 (fun i s z y hy hi hl => hs i s z y (List.mem_cons_of_mem _ hy) hi (by simp; omega))
    rw [List.map_cons, List.foldl_cons, List.length_cons, show k + (xs.length + 1) = k + 1 + xs.length by omega]
    obtain ⟨⟨z2, e3⟩, h3⟩ := this
    refine ⟨⟨z2, ?_⟩, h3⟩
    unfold mLoop
    rw [e1]
    simp only [e2, bind_ok]
    exact e3
theorem loop_junk {σ β α : Type} {g : MG} {b : MS} (env : σ → β → Env) (item : α → MV) (f : σ → α → σ) (I : Nat → σ → Prop) (xs : List α) (s : σ) (z : β) (h0 : I 0 s)
    (hs : ∀ i s z x, x ∈ xs → I i s → i < xs.length → I (i + 1) (f s x) ∧ ∃ ρ1, g (item x) (env s z) = some ρ1 ∧ ∃ z', b ρ1 = .ok (.nx, env (f s x) z')) :
    (∃ z', mLoop g b (xs.map item) (env s z) = .ok (.nx, env (xs.foldl f s) z')) ∧ I xs.length (xs.foldl f s) := by
  have := loop_jx (g := g) (b := b) env item f I xs 0 s z h0 (fun i s z x hx hi hl => ⟨(hs i s z x hx hi (by simpa using hl)).2, (hs i s z x hx hi (by simpa using hl)).1⟩)
  rw [Nat.zero_add] at this
  exact this
end Tm
set_option Elab.async false
set_option linter.all false
set_option maxRecDepth 100000
set_option maxHeartbeats 2000000
namespace Tm
open PySem L2
section
variable {α β : Type} {ρ : Env} {r : Option MV} {x f g y : Str} {a b : ME}
@[simp] theorem mRaise1_ap : mRaise1 x f a (r :: ρ) = (a (r :: ρ)).bind fun y ρ1 => .exc ⟨x, [(f, y)]⟩ ρ1 := nr rfl
variable {i : Nat} {tab : List (Str × Bool)} {mb : MS} {mh : MX → MS} {e : MX} {q : Fl × Env}
theorem mFn_exc {n : Nat} {m : MS} {xs : List MV} {e : MX} (h : ∃ ρ, m (xs.map some ++ List.replicate (n - xs.length) none) = .exc e ρ) : mFn n [] m xs = .exc e [] := by
  obtain ⟨ρ, h⟩ := h
  unfold mFn; rw [h]; rfl
end
section
variable {i : Int} {b b' : Bool} {x y : Str}
@[simp] theorem fEq_nn : fEq .non .non = some (.bl true) := nr rfl
@[simp] theorem fNe_nn : fNe .non .non = some (.bl false) := nr rfl
@[simp] theorem fEq_ni : fEq .non (.int i) = some (.bl false) := nr rfl
@[simp] theorem fEq_in : fEq (.int i) .non = some (.bl false) := nr rfl
@[simp] theorem fNe_ni : fNe .non (.int i) = some (.bl true) := nr rfl
@[simp] theorem fNe_in : fNe (.int i) .non = some (.bl true) := nr rfl
@[simp] theorem fEq_ns : fEq .non (.str x) = some (.bl false) := nr rfl
@[simp] theorem fEq_sn : fEq (.str x) .non = some (.bl false) := nr rfl
@[simp] theorem fNe_ns : fNe .non (.str x) = some (.bl true) := nr rfl
@[simp] theorem fNe_sn : fNe (.str x) .non = some (.bl true) := nr rfl
@[simp] theorem fEq_bb : fEq (.bl b) (.bl b') = some (.bl (decide (b = b'))) := nr rfl
@[simp] theorem fNe_bb : fNe (.bl b) (.bl b') = some (.bl (!decide (b = b'))) := nr rfl
@[simp] theorem fEq_is : fEq (.int i) (.str x) = some (.bl false) := nr rfl
@[simp] theorem fEq_si : fEq (.str x) (.int i) = some (.bl false) := nr rfl
@[simp] theorem fIsN_n : fIsN .non .non = some (.bl true) := nr rfl
@[simp] theorem fIsN_i : fIsN (.int i) .non = some (.bl false) := nr rfl
@[simp] theorem fIsN_s : fIsN (.str x) .non = some (.bl false) := nr rfl
@[simp] theorem fIsN_t {xs : List MV} : fIsN (.tup xs) .non = some (.bl false) := nr rfl
@[simp] theorem fIsN_b : fIsN (.bl b) .non = some (.bl false) := nr rfl
end
@[simp] theorem fIx_s {z : Str} {i : Int} : fIx (.str z) (.int i) = if szOk z.length then (atI z.cps.toList i).map fun c => MV.str ⟨#[c]⟩ else none := nr rfl
@[simp] theorem fSl_s {z : Str} {lo hi : Option Int} : fSl (.str z) lo hi = if szOk z.length then some (.str (cutS z lo hi)) else none := nr rfl
@[simp] theorem bLen_s {z : Str} : bLen [.str z] = if szOk z.length then some (.int z.length) else none := nr rfl
theorem fMul_l {a : List MV} {k : Int} (h : 0 ≤ k) (h2 : k < 2 ^ 63) (h3 : szOk (a.length * k.toNat) = true) : fMul (.lst a) (.int k) = some (.lst (List.replicate k.toNat a).flatten) := by
  show (if (decide (-(2 ^ 63) ≤ k) && decide (k < 2 ^ 63) && szOk (a.length * k.toNat)) = true then some (MV.lst (List.replicate k.toNat a).flatten) else none) = _
  rw [if_pos]
  simp only [h2, h3, decide_true, Bool.and_true, decide_eq_true_eq]
  omega
theorem rep_one {α : Type} (x : α) (k : Nat) : (List.replicate k [x]).flatten = List.replicate k x := by
  induction k with
  | zero => rfl
  | succ k ih => rw [List.replicate_succ, List.flatten_cons, ih]; rfl
theorem fMul_1 {x : MV} {k : Nat} (h : k < 1000000) : fMul (.lst [x]) (.int (k : Nat)) = some (.lst (List.replicate k x)) := by
  rw [fMul_l (by omega) (by omega) (szOk_small (by simp; omega))]
  show some (MV.lst (List.replicate k [x]).flatten) = _
  rw [rep_one]
@[simp] theorem fMul_10 {x : MV} : fMul (.lst [x]) (.int 0) = some (.lst []) := fMul_1 (k := 0) (by decide)
@[simp] theorem fMul_11 {x : MV} : fMul (.lst [x]) (.int 1) = some (.lst [x]) := fMul_1 (k := 1) (by decide)
@[simp] theorem mOpO_ap {f : MV → MV → Option (List MV)} {a b : ME} {r : Option MV} {ρ : Env} : mOpO f a b (r :: ρ) = (a (r :: ρ)).bind fun x ρ1 => (b ρ1).bind fun y ρ2 => match f x y with | some zs => .ok (.own zs, ρ2) | none => .stuck := nr rfl
@[simp] theorem fAddL_ll {a b : List MV} : fAddL (.lst a) (.lst b) = if szOk (a.length + b.length) then some (a ++ b) else none := nr rfl
end Tm
set_option Elab.async false
set_option linter.all false
set_option maxRecDepth 100000
set_option maxHeartbeats 2000000
namespace Tm
open PySem L2
theorem lc_filt {g : Tgt} {t : MT} {e : ME} {vs : List Nat} {W : Env} (p : MV → Bool) (y : MV → MV) : ∀ (xs acc : List MV) (ρ : Env), (∀ x ∈ xs, ∃ ρ1, setT g x W = some ρ1 ∧ t ρ1 = .ok (p x, ρ1) ∧ (p x = true → e ρ1 = .ok (y x, ρ1)) ∧ wipeM ρ1 vs = W ∧ ρ1.length = W.length) → wipeM ρ vs = W → ρ.length = W.length → acc.length + xs.length ≤ sizeLine →
    ∃ ρ', mLcLoop g t e vs xs acc ρ = .ok (acc ++ (xs.filter p).map y, ρ') ∧ wipeM ρ' vs = W ∧ ρ'.length = W.length
  | [], acc, ρ, _, hw, hl, _ => ⟨ρ, by simp [mLcLoop], hw, hl⟩
  | x :: xs, acc, ρ, h, hw, hl, hz => by
    obtain ⟨ρ1, e1, et, e2, e3, e4⟩ := h x (List.mem_cons_self ..)
    rw [List.length_cons] at hz
    cases hp : p x with
    | true =>
      obtain ⟨ρ', r1, r2, r3⟩ := lc_filt (g := g) (t := t) (e := e) (vs := vs) p y xs (acc ++ [y x]) ρ1 (fun z hz => h z (List.mem_cons_of_mem _ hz)) e3 e4 (by rw [List.length_append, List.length_singleton]; omega)
      refine ⟨ρ', ?_, r2, r3⟩
      unfold mLcLoop
      rw [hw, e1]
      simp only [et, hp, b0_ok, if_true, e2 hp]
      rw [if_pos ⟨by omega, by rw [e4, hl]⟩, r1, List.filter_cons_of_pos hp]
      simp
    | false =>
      obtain ⟨ρ', r1, r2, r3⟩ := lc_filt (g := g) (t := t) (e := e) (vs := vs) p y xs acc ρ1 (fun z hz => h z (List.mem_cons_of_mem _ hz)) e3 e4 (by omega)
      refine ⟨ρ', ?_, r2, r3⟩
      unfold mLcLoop
      rw [hw, e1]
      simp only [et, hp, b0_ok, Bool.false_eq_true, if_false]
      rw [if_pos (by rw [e4, hl]), r1, List.filter_cons_of_neg (by simp [hp])]
theorem mLcO_filt {it : MI} {g : Tgt} {t : MT} {e : ME} {vs : List Nat} {ρ ρ1 : Env} {xs : List MV} (p : MV → Bool) (y : MV → MV) (hi : it ρ = .ok (xs, ρ1)) (hp : perAt ρ1 vs = true) (hx : ∀ x ∈ xs, ∃ ρ2, setT g x (wipeM ρ1 vs) = some ρ2 ∧ t ρ2 = .ok (p x, ρ2) ∧ (p x = true → e ρ2 = .ok (y x, ρ2)) ∧ wipeM ρ2 vs = wipeM ρ1 vs ∧ ρ2.length = ρ1.length) (hz : xs.length ≤ sizeLine) :
    mLcO it g t e vs ρ = .ok (.own ((xs.filter p).map y), ρ1) := by
  obtain ⟨ρ', r1, r2, r3⟩ := lc_filt (g := g) (t := t) (e := e) (vs := vs) (W := wipeM ρ1 vs) p y xs [] ρ1 (fun x h => by
    obtain ⟨ρ2, a, b, c, d, f⟩ := hx x h
    exact ⟨ρ2, a, b, c, d, by rw [f, wipeM_len]⟩) rfl (wipeM_len ..).symm (by simpa using hz)
  unfold mLcO
  rw [hi, bind_ok, if_pos hp, r1]
  simp only [b0_ok, List.nil_append]
  rw [back_wipe vs ρ1 ρ' (by rw [r3, wipeM_len]) (wipe_other (by rw [r3, wipeM_len]) r2)]
theorem set_none {ρ : Env} {v : Nat} (hv : ρ[v]? = some none) : ρ.set v none = ρ := by
  apply List.ext_getElem?
  intro j
  by_cases e : v = j
  · subst e; rw [List.getElem?_set_self (lt_get hv), hv]
  · rw [List.getElem?_set_ne e]
theorem mLcO_nmf {it : MI} {t : MT} {e : ME} {v : Nat} {ρ : Env} {xs : List MV} (p : MV → Bool) (y : MV → MV) (hi : it ρ = .ok (xs, ρ)) (hv : ρ[v]? = some none) (ht : ∀ x ∈ xs, t (ρ.set v (some x)) = .ok (p x, ρ.set v (some x))) (he : ∀ x ∈ xs, p x = true → e (ρ.set v (some x)) = .ok (y x, ρ.set v (some x))) (hz : xs.length ≤ sizeLine) :
    mLcO it (.nm v) t e [v] ρ = .ok (.own ((xs.filter p).map y), ρ) := by
  have lv := lt_get hv
  have w : wipeM ρ [v] = ρ := set_none hv
  refine mLcO_filt p y hi (by simp [perAt, hv]) (fun x hx => ?_) hz
  rw [w]
  refine ⟨ρ.set v (some x), by simp [setT, lv], ht x hx, he x hx, ?_, by simp⟩
  show (ρ.set v (some x)).set v none = ρ
  rw [List.set_set]
  exact w
theorem mLcO_nm {it : MI} {e : ME} {v : Nat} {ρ : Env} {xs : List MV} (y : MV → MV) (hi : it ρ = .ok (xs, ρ)) (hv : ρ[v]? = some none) (he : ∀ x ∈ xs, e (ρ.set v (some x)) = .ok (y x, ρ.set v (some x))) (hz : xs.length ≤ sizeLine) :
    mLcO it (.nm v) mYes e [v] ρ = .ok (.own (xs.map y), ρ) := by
  have := mLcO_nmf (t := mYes) (fun _ => true) y hi hv (fun _ _ => rfl) (fun x hx _ => he x hx) hz
  rwa [List.filter_eq_self.mpr (fun _ _ => rfl)] at this
@[simp] theorem mLenV_ap : mLenV i (r :: ρ) = match lenV (r :: ρ) i with | some z => .ok (z, r :: ρ) | none => .stuck := nr rfl
@[simp] theorem lenV_get {ρ : Env} : lenV ρ i = match ρ[i]? with | some (some (.own xs)) => some (.int xs.length) | some (some x) => bLen [x] | _ => none := nr rfl
@[simp] theorem fMul_s {a : Str} {k : Int} : fMul (.str a) (.int k) = if decide (-(2 ^ 63) ≤ k) && decide (k < 2 ^ 63) && szOk (a.length * k.toNat) then some (.str (repS a k)) else none := nr rfl
theorem fMul_tup {a : List MV} {k : Int} : fMul (.tup a) (.int k) = if (decide (-(2 ^ 63) ≤ k) && decide (k < 2 ^ 63) && (decide (k = 1) || a.isEmpty || (decide (2 ≤ k) && decide (k ≤ 1000) && decide (a.length ≤ 1000)))) = true then some (.tup (List.replicate k.toNat a).flatten) else none := rfl
@[simp] theorem fMul_t1 {a : List MV} : fMul (.tup a) (.int 1) = some (.tup a) := by
  rw [fMul_tup, if_pos (by simp)]
  simp
end Tm
set_option Elab.async false
set_option linter.all false
set_option maxRecDepth 100000
set_option maxHeartbeats 2000000
namespace Tm
open PySem L2
section
variable {ρ : Env} {r : Option MV}
@[simp] theorem mCallB_ap {f : MF} {a : MB} : mCallB f a (r :: ρ) = (a (r :: ρ)).bind (cbE f) := nr rfl
@[simp] theorem cbE_ap {f : MF} {args : List BA} : cbE f args (r :: ρ) = match fill args (r :: ρ) with
  | some xs => (match f xs with | .ok (v, os) => .ok (v, back (r :: ρ) (idxB args) os) | .exc e os => .exc e (back (r :: ρ) (idxB args) os) | .stuck => .stuck)
  | none => .stuck := nr rfl
@[simp] theorem mbNil_ap : mbNil (r :: ρ) = .ok ([], r :: ρ) := nr rfl
@[simp] theorem mbV_ap {a : ME} {b : MB} : mbV a b (r :: ρ) = (a (r :: ρ)).bind fun x ρ1 => (b ρ1).bind fun xs ρ2 => .ok (.v x :: xs, ρ2) := nr rfl
@[simp] theorem mbB_ap {i : Nat} {b : MB} : mbB i b (r :: ρ) = if has (r :: ρ) i then (b (r :: ρ)).bind fun xs ρ2 => .ok (.b i :: xs, ρ2) else .stuck := nr rfl
@[simp] theorem fill_nil {ρ : Env} : fill [] ρ = some [] := nr rfl
@[simp] theorem fill_v {ρ : Env} {x : MV} {s : List BA} : fill (.v x :: s) ρ = match fill s ρ with | some xs => some (x :: xs) | none => none := nr rfl
@[simp] theorem fill_b {ρ : Env} {i : Nat} {s : List BA} : fill (.b i :: s) ρ = match ρ[i]?, fill s ρ with | some (some x), some xs => if x.held then some (x :: xs) else none | _, _ => none := nr rfl
@[simp] theorem idxB_nil : idxB [] = [] := nr rfl
@[simp] theorem idxB_v {x : MV} {s : List BA} : idxB (.v x :: s) = idxB s := nr rfl
@[simp] theorem idxB_b {i : Nat} {s : List BA} : idxB (.b i :: s) = i :: idxB s := nr rfl
@[simp] theorem back_nil {ρ os : Env} : back ρ [] os = ρ := nr rfl
@[simp] theorem back_cons {ρ os : Env} {i : Nat} {is : List Nat} {o : Option MV} : back ρ (i :: is) (o :: os) = back (ρ.set i o) is os := nr rfl
@[simp] theorem held_own {xs : List MV} : (MV.own xs).held = true := nr rfl
@[simp] theorem held_obj {C : Str} {fs : List (Str × MV)} : (MV.obj C fs).held = true := nr rfl
end
theorem mFn_rtB {n : Nat} {bs : List Nat} {m : MS} {xs : List MV} {v : MV} {os : Env} (h : ∃ ρ, m (xs.map some ++ List.replicate (n - xs.length) none) = .ok (.rt v, ρ) ∧ endOf bs ρ = os) : mFn n bs m xs = .ok (v, os) := by
  obtain ⟨ρ, h, rfl⟩ := h
  show (match m (xs.map some ++ List.replicate (n - xs.length) none) with | .ok (.rt v, ρ) => _ | .ok (.nx, ρ) => _ | .exc e ρ => _ | _ => _) = _
  rw [h]
theorem mFn_nxB {n : Nat} {bs : List Nat} {m : MS} {xs : List MV} {os : Env} (h : ∃ ρ, m (xs.map some ++ List.replicate (n - xs.length) none) = .ok (.nx, ρ) ∧ endOf bs ρ = os) : mFn n bs m xs = .ok (.non, os) := by
  obtain ⟨ρ, h, rfl⟩ := h
  show (match m (xs.map some ++ List.replicate (n - xs.length) none) with | .ok (.rt v, ρ) => _ | .ok (.nx, ρ) => _ | .exc e ρ => _ | _ => _) = _
  rw [h]
theorem char_list_inj : ∀ {a b : List Char}, a.map Char.toNat = b.map Char.toNat → a = b
  | [], [], _ => rfl
  | [], _ :: _, h => by simp at h
  | _ :: _, [], h => by simp at h
  | c :: a, d :: b, h => by
    simp only [List.map_cons, List.cons.injEq] at h
    have e : c = d := by rw [← Char.ofNat_toNat c, ← Char.ofNat_toNat d, h.1]
    rw [e, char_list_inj h.2]
@[simp] theorem str_inj {a b : String} : (Str.ofString a = Str.ofString b) = (a = b) := by
  refine propext ⟨fun h => ?_, fun h => by rw [h]⟩
  rw [Str.ofString_eq_toList, Str.ofString_eq_toList] at h
  have h2 := congrArg (fun z : Str => z.cps.toList) h
  simp only at h2
  exact String.toList_inj.mp (char_list_inj h2)
end Tm
set_option Elab.async false
set_option linter.all false
set_option maxRecDepth 100000
set_option maxHeartbeats 2000000
namespace HT
open PySem PyProof.Rows
end HT
namespace Tm
open PySem L2 PySem.Spec PyProof.Rows
open Evl (Ex ex_rd ex_l ex_t)
def ItEk (k : Nat) (S : Hp → List V → Prop) : It :=
  ⟨fun i H => ∃ (l : List V) (x : V), S H l ∧ l[i]? = some x, fun i H v H' => ∃ p x, v = .ref p ∧ H p = none ∧ H' = upd H p (.tup [.int ((k + i : Nat) : Int), x]) ∧ ∀ l, S H l → l[i]? = some x, fun i H => ∃ l : List V, S H l ∧ i = l.length⟩
section
variable {P : Program} {w : World} {K : PySem.W.Frag} {elts : List Expr} {kk : Nat} {tpos : Pos}
theorem turn_enumK {e it : Addr} {fp : List Addr} {S : Hp → List V → Prop} {tn : Nat → Heap → Prop} (k : Nat) (A1 : ZSrc P w K it fp S tn) (hne : e ≠ it) (hef : e ∉ fp) :
    Turn P w K (.Tuple elts kk tpos) (ItEk k S) [e, it] e (fun i h => (∃ old, IsEnum h e it ((k + i : Nat) : Int) old) ∧ tn i h) where
  mem := by simp
  obj := by
    rintro i h ⟨⟨old, he⟩, t⟩ b hb
    have e' : b = e ∨ b = it := by simpa using hb
    rcases e' with z | z
    · rw [z]; exact ⟨_, he, fun v q => nomatch q⟩
    · rw [z]; exact A1.obj i h t
  keep := fun i h h' st kp => let ⟨⟨old, he⟩, t⟩ := st; ⟨⟨old, kp e (by simp) _ he⟩, A1.keep i h h' t (kp it (by simp))⟩
  item := by
    intro X hP hw hK hc i pins s σ H E I hf st hg
    subst hP hw hK
    obtain ⟨⟨old, he⟩, t⟩ := st
    obtain ⟨l, x, b1, g1⟩ := hg
    obtain ⟨Y, St, D, e1, r1, k1⟩ := A1.draw X rfl rfl rfl hc pins s σ H l i I b1 t
    have m1 : i < l.length := (List.getElem?_eq_some_iff.mp g1).1
    have hel : e < s.heap.objs.size := Heap.lt_size he
    refine wpAny_pyNext_enum_itemC D he e1 m1 hne hef fun u h' tk y ho st' hT hsz hk => ?_
    obtain ⟨x', a1, ru⟩ := r1 i u y
    rw [g1] at a1
    cases a1
    refine ⟨_, rfl, wpAny_letOwnedTupleGo_enum (s := { s with heap := h', toks := tk + 1 }) ho fun h'' he' sb => ?_⟩
    have hT2 : h''.get? s.heap.objs.size = some { cls := .type "tuple", data := .seq #[.int ((k + i : Nat) : Int) tk, u] } := (sb.2 _ (Nat.ne_of_gt hel)).trans hT
    have new : ObjOk X.prog X.w (upd H s.heap.objs.size (.tup [.int ((k + i : Nat) : Int), x])) h'' s.heap.objs.size (.tup [.int ((k + i : Nat) : Int), x]) :=
      ⟨by show 2 ≤ sizeLine; decide, [.int ((k + i : Nat) : Int) tk, u], .cons ⟨_, rfl⟩ (.cons ru .nil), ⟨_, hT2, rfl, _, rfl⟩⟩
    have I1 : Inv X pins σ (upd H s.heap.objs.size (.tup [.int ((k + i : Nat) : Int), x])) { s with heap := h'', toks := tk + 1 } :=
      Inv.turnedNew (ch := [e, it]) I (fun b ob hb q => (sb.2 b (fun z => hb (by simp [z]))).trans (hk b ob (fun z => hb (by simp [z])) (fun z => hb (by simp [z])) q)) hf (Nat.le_refl _) new
    refine ⟨.ref s.heap.objs.size, _, I1, rfl, ⟨_, x, rfl, I.hok.fresh (Nat.le_refl _), rfl, fun ys hy => by rw [A1.inj X rfl pins s σ H ys l I hy b1]; exact g1⟩, ⟨⟨u, ?_⟩, A1.keep _ h' h'' (k1 _ _ st') fun o q => (sb.2 it (Ne.symm hne)).trans q⟩, fun b hb => ?_⟩
    · have e1 : ((k + (i + 1) : Nat) : Int) = ((k + i : Nat) : Int) + 1 := by omega
      rw [e1]; exact he'
    · have hb' : b < s.heap.objs.size := by
        have e' : b = e ∨ b = it := by simpa using hb
        rcases e' with z | z
        · rw [z]; exact hel
        · rw [z]
          obtain ⟨o, eo, _⟩ := A1.obj i s.heap t
          exact Heap.lt_size eo
      rw [upd_ne (Nat.ne_of_lt hb')]
      exact (hf b hb).1
  done := by
    intro X hP hw hK hc i pins s σ H E I hf st hg
    subst hP hw hK
    obtain ⟨⟨old, he⟩, t⟩ := st
    obtain ⟨l, b1, hend⟩ := hg
    obtain ⟨Y, St, D, e1, r1, k1⟩ := A1.draw X rfl rfl rfl hc pins s σ H l i I b1 t
    subst hend
    refine wpAny_pyNext_enum_endD D he e1 fun h' eb => ⟨rfl, ?_⟩
    exact Inv.turnedL I (fun b o nb q => eb b o (fun z => nb (by simp [z])) q) hf
  self := fun A i s Q E st h => let ⟨⟨_, he⟩, _⟩ := st; wpAny_pyIter_enum he h
end
def iEnumK (k : Nat) (K : PySem.W.Frag) (ta : TA) : TI := fun σ H R => ta σ H fun vs H1 => ∃ v S, vs = [v] ∧ ZArg K H1 v S ∧ R (ItEk k S) H1
def enumK (k : Nat) : List MV → List MV
  | [] => []
  | x :: xs => .tup [.int (k : Nat), x] :: enumK (k + 1) xs
theorem enumK_len : ∀ (xs : List MV) (k : Nat), (enumK k xs).length = xs.length
  | [], _ => rfl
  | x :: xs, k => by simp [enumK, enumK_len xs]
theorem enumK_get : ∀ {xs : List MV} {k i : Nat} {x : MV}, xs[i]? = some x → (enumK k xs)[i]? = some (.tup [.int ((k + i : Nat) : Int), x])
  | [], k, i, x, h => by simp at h
  | y :: xs, k, 0, x, h => by simp at h; subst h; rfl
  | y :: xs, k, i + 1, x, h => by
    simp only [List.getElem?_cons_succ] at h
    unfold enumK
    rw [List.getElem?_cons_succ, enumK_get h, show k + 1 + i = k + (i + 1) by omega]
theorem walks_ek {K : PySem.W.Frag} {Hk : Hp} {S : Hp → List V → Prop} {xs : List MV} (k : Nat) (h1 : ZVal K Hk S xs) : Walks K Hk (ItEk k S) (enumK k xs) := by
  obtain ⟨vs, g1, r1⟩ := h1
  refine ⟨fun i H e hi => ?_, fun H e => ⟨vs, g1 H e, by rw [enumK_len, r1.length]⟩, fun i H x H' e hi y => ?_⟩
  · rw [enumK_len] at hi
    obtain ⟨v, hv, _⟩ := r1.get (List.getElem?_eq_getElem hi)
    exact ⟨vs, v, g1 H e, hv⟩
  · rw [enumK_len] at hi
    obtain ⟨v, hv, rv⟩ := r1.get (List.getElem?_eq_getElem hi)
    obtain ⟨p, x1, e1, e2, e3, e4⟩ := y
    have a1 := e4 vs (g1 H e)
    rw [hv] at a1
    cases a1
    exact ⟨_, enumK_get (List.getElem?_eq_getElem hi), .inr ⟨p, _, _, e2, e3, e1, rfl, rvs2 (RV.int.mpr rfl) rv⟩⟩
def mEnumK (k : Nat) (a : MA) : MI := fun ρ => (a ρ).bind fun xs ρ1 => match xs with
  | [x] => (match zitM x with | some xs => .ok (enumK k xs, ρ1) | _ => .stuck)
  | _ => .stuck
@[simp] theorem mEnumK_ap {k : Nat} {a : MA} {ρ : Env} {r : Option MV} : mEnumK k a (r :: ρ) = (a (r :: ρ)).bind fun xs ρ1 => match xs with
  | [x] => (match zitM x with | some xs => .ok (enumK k xs, ρ1) | _ => .stuck)
  | _ => .stuck := rfl
end Tm
set_option Elab.async false
set_option linter.all false
set_option maxRecDepth 100000
set_option maxHeartbeats 2000000
namespace Tm
open PySem L2 PySem.Spec PyProof.Rows HotX
def HotS (X : Cx) : Prop := ∀ (pins : List (Addr × Obj)) (σ : L2.St) (H : Hp) (s : Shared), Inv X pins σ H s → ∃ x1, HotAt X.A x1 s.heap
structure TurnS (P : Program) (w : World) (K : PySem.W.Frag) (tg : Expr) (J : It) (it : Addr) (tn : Nat → Heap → Prop) : Prop where
  obj : ∀ i h, tn i h → ∃ o, h.get? it = some o ∧ ∀ v, o.data ≠ .cell v
  keep : ∀ i h h', tn i h → (∀ o, h.get? it = some o → h'.get? it = some o) → tn i h'
  item : ∀ (X : Cx), X.prog = P → X.w = w → X.K = K → ∀ (i : Nat) (pins : List (Addr × Obj)) (s : Shared) (σ : L2.St) (H : Hp) (E : Value → Shared → Prop), Inv X pins σ H s → FpOk X pins H it → tn i s.heap → J.go i H →
    wpAny (model P w) X.A (pyNext (.ref it)) (fun r s1 => ∃ u, r = some u ∧ wpAny (model P w) X.A (letOwnedTupleGo tg (.ref it) u) (fun _ s2 => ∃ x H', Inv X pins σ H' s2 ∧ RelV x u ∧ J.yld i H x H' ∧ tn (i + 1) s2.heap ∧ H' it = none) E s1) E s
  done : ∀ (X : Cx), X.prog = P → X.w = w → X.K = K → HotS X → ∀ (i : Nat) (pins : List (Addr × Obj)) (s : Shared) (σ : L2.St) (H : Hp) (E : Value → Shared → Prop), Inv X pins σ H s → FpOk X pins H it → tn i s.heap → J.stop i H →
    wpAny (model P w) X.A (pyNext (.ref it)) (fun r s1 => r = none ∧ Inv X pins σ H s1) E s
  self : ∀ (A : Around) (i : Nat) (s : Shared) (Q : Value → Shared → Prop) (E : Value → Shared → Prop), tn i s.heap → Q (.ref it) s → wpAny (model P w) A (pyIter (.ref it)) Q E s
structure PIS (X : Cx) (tg iter : Expr) (wi : TI) : Prop where
  run : ∀ (pins : List (Addr × Obj)) (s : Shared) (σ : L2.St) (H : Hp) (R : It → Hp → Prop), Inv X pins σ H s → wi σ H R →
    wpAny (model X.prog X.w) X.A (eval iter X.env) (fun v s1 => wpAny (model X.prog X.w) X.A (pyIter v) (fun u s2 => ∃ (it : Addr) (tn : Nat → Heap → Prop) (J : It) (H' : Hp), u = .ref it ∧ Inv X pins σ H' s2 ∧ TurnS X.prog X.w X.K tg J it tn ∧ tn 0 s2.heap ∧ FpOk X pins H' it ∧ R J H') X.xe s1) X.xe s
end Tm
set_option Elab.async false
set_option linter.all false
set_option maxRecDepth 100000
set_option maxHeartbeats 2000000
namespace Tm
open PySem L2 PySem.Spec PyProof.Rows
open Evl (Ex ex_rd ex_l ex_t)
structure FnE (P : Program) (w : World) (K : PySem.W.Frag) (mg : Str → Option Value) (base : Heap) (CX : CXT) (k : Nat) (f : Addr) (fd : FuncData) (ps : List Str) (sp : Addr × Obj → Sp) : Prop where
  len : ∀ p vs H Q E, sp p vs H Q E → vs.length = ps.length
  run : ∀ (A : Around) (outer : List PySem.Env) (s : Shared) (H : Hp) (args : Args) (us : List Value) (vs : List V) (Q : VK) (E : XK) (p : Addr × Obj), L2H.RoomH k A → L2H.Hot1 A p → L2H.PinOk outer H s p → Env0 P w K mg base A outer s H → BindsTo s fd args (ps.zip us) → Vals vs us → sp p vs H Q E →
    codeAny (model P w) A (.call (.ref f) args) (CR CX outer P w H s Q E) s
def spE (K : PySem.W.Frag) (mg : Str → Option Value) (ts : List Str) (f : MX → Res (MV × Env)) : Addr × Obj → Sp := fun p vs H Q _ => vs = [.ref p.1] ∧ ∃ (F Hk : Hp) (e : MX) (C : Addr) (d : Option Addr) (v : MV) (ρ' : Env), Ex Hk H ∧ Ex F H ∧ (∀ a o, F a = some o → Hk a = none) ∧
  mg e.cls = some (.ref C) ∧ e.cls ∈ ts ∧ L2N.Zn (.ref C) d p.2 ∧ (∃ vs, p.2.data = .fields vs) ∧ XIn F e d ∧ f e = .ok (v, ρ') ∧ flatM v = true ∧ ∀ Hk' H' u, Ex Hk Hk' → Ex Hk' H' → Ex F H' → (∀ a o, F a = some o → Hk' a = none) → RV K Hk' v u → Q u H'
structure FdE (P : Program) (w : World) (K : PySem.W.Frag) (mg : Str → Option Value) (base : Heap) (x : Str) (k : Nat) (q : Str) (ts : List Str) (f : MX → Res (MV × Env)) : Prop where
  ex : ∃ (a : Addr) (fd : FuncData), FnE P w K mg base (L2N.CX P w) k a fd [q] (spE K mg ts f) ∧ mg x = some (.ref a) ∧ PySem.W.keepIn K (.ref a) = true ∧ Binds K fd [q] []
structure KiB (K : PySem.W.Frag) (mg : Str → Option Value) (T : String) (x : Str) : Prop where
  ex : ∃ C, mg x = some (.ref C) ∧ PySem.W.kitOne K (.ref C) (.type T) = some true
end Tm
set_option Elab.async false
set_option linter.all false
set_option maxRecDepth 100000
set_option maxHeartbeats 2000000
namespace Tm
open PySem L2 PySem.Spec PyProof.Rows
open Evl (Ex ex_rd ex_l ex_t)
inductive HdE (X : Cx) (n : Str) : List ExceptHandler → List (Value × (Addr → Value → Option Addr → TS)) → Prop
  | nil : HdE X n [] []
  | cons {y : Str} {c : Value} {ts : Addr → Value → Option Addr → TS} {b₀ : Stmt} {suite : List Stmt} {np p : Pos} {hds : List ExceptHandler} {l : List (Value × (Addr → Value → Option Addr → TS))} (hc : Names X y c)
      (hsu : ∀ (a : Addr) (oe : Obj) (cls : Value) (d : Option Addr) (pn : List (Addr × Obj)), L2N.Zn cls d oe → (∃ vs, oe.data = .fields vs) → PSs (X.suite a ((a, oe) :: pn)) (b₀ :: suite) (ts a cls d)) (r : HdE X n hds l) :
      HdE X n (.ExceptHandler (some (.Name y np)) (some n) (b₀ :: suite) p :: hds) ((c, ts) :: l)
inductive HdM (X : Cx) (c : Ct) (i : Nat) (n : Str) : List ExceptHandler → List (List (Str × Bool) × (MX → MS)) → Prop
  | nil : HdM X c i n [] []
  | cons {y : Str} {b₀ : Stmt} {suite : List Stmt} {np p : Pos} {hds : List ExceptHandler} {tab : List (Str × Bool)} {mh : MX → MS} {l : List (List (Str × Bool) × (MX → MS))} (hg : Gl X y) (ht : ∀ p ∈ tab, ExT X.K X.mg y p.1 p.2) (hne : ∃ D, X.mg y = some (.ref D))
      (hsu : ∀ (a : Addr) (oe : Obj) (C : Addr) (d : Option Addr) (pn : List (Addr × Obj)) (e : MX), X.mg e.cls = some (.ref C) → (e.cls, true) ∈ tab → L2N.Zn (.ref C) d oe → (∃ vs, oe.data = .fields vs) → PSs (X.suite a ((a, oe) :: pn)) (b₀ :: suite) (rdS (cH c i a e d) (mh e)))
      (hdb : (y == ("__debug__" : Str)) = false) (r : HdM X c i n hds l) :
      HdM X c i n (.ExceptHandler (some (.Name y np)) (some n) (b₀ :: suite) p :: hds) ((tab, mh) :: l)
end Tm
set_option Elab.async false
set_option linter.all false
set_option maxRecDepth 100000
set_option maxHeartbeats 2000000
namespace Tm
open PySem L2 PySem.Spec PyProof.Rows
open Evl (Ex ex_rd ex_l ex_t)
def dctAt (ks : List Key) (xs : List MV) (k : Key) : Option MV := ((ks.zip xs).find? fun p => decide (p.1 = k)).map (·.2)
theorem dctAt_rv {K : PySem.W.Frag} {H : Hp} : ∀ {ks : List Key} {xs : List MV} {vs : List V} (k : Key), RVs K H xs vs → (∀ x, dctAt ks xs k = some x → ∃ v, valV (ks.zip vs) k = some v ∧ RV K H x v) ∧ (dctAt ks xs k = none → valV (ks.zip vs) k = none)
  | [], xs, vs, k, _ => ⟨fun x h => by simp [dctAt] at h, fun _ => by simp [valV]⟩
  | a :: ks, [], vs, k, r => by
    rw [RVs.nil.mp r]
    exact ⟨fun x h => by simp [dctAt] at h, fun _ => by simp [valV]⟩
  | a :: ks, x :: xs, vs, k, r => by
    obtain ⟨v, us, rfl, r1, r2⟩ := RVs.cons.mp r
    obtain ⟨i1, i2⟩ := dctAt_rv (ks := ks) k r2
    unfold dctAt at *
    rw [List.zip_cons_cons, List.zip_cons_cons, List.find?_cons]
    by_cases e : a = k
    · rw [valV_pos (p := (a, v)) e]
      simp only [e, decide_true]
      exact ⟨fun y h => by simp at h; subst h; exact ⟨v, rfl, r1⟩, fun h => by simp at h⟩
    · rw [valV_neg (p := (a, v)) e]
      simp only [e, decide_false]
      exact ⟨i1, i2⟩
def keyM : MV → Option Key
  | .int i => some (.inl i)
  | .str z => some (.inr z)
  | _ => none
theorem keyM_rv {K : PySem.W.Frag} {H : Hp} {x : MV} {k : Key} {v : V} (e : keyM x = some k) (r : RV K H x v) : v = kV k := by
  unfold keyM at e
  split at e
  · cases e; exact RV.int.mp r
  · cases e; exact RV.str.mp r
  · cases e
def fDix (x y : MV) : Option MV := match x, keyM y with
  | .dct ks xs, some k => dctAt ks xs k
  | _, _ => none
theorem os_dix {K : PySem.W.Frag} : OpS K fDix (fun x y H Q => ∃ a v, x = .ref a ∧ DGet H a y (some v) ∧ Q v H) := by
  intro x y z v w Hk H Q e ex r1 r2 q qn
  unfold fDix at e
  split at e
  · rename_i ks xs k ek
    obtain ⟨a, vs, rfl, h1, h2, h3⟩ := RV.dct.mp r1
    have := keyM_rv ek r2
    subst this
    obtain ⟨u, e1, e2⟩ := (dctAt_rv (ks := ks) k h3).1 z e
    refine ⟨a, u, rfl, ?_, q u e2⟩
    rw [← e1]
    exact DGet.k (ex _ _ h1)
  · cases e
section
variable {X : Cx} {c : Ct} {pos apos cpos : Pos} {k : Nat}
theorem me_dix {a b : Expr} {ma mb : ME} (hr : X.A.units + 64 < cLine) (ha : PE X a (rdE c ma)) (hb : PE X b (rdE c mb)) (hs : NoSl b := by exact fun _ _ => rfl) : PE X (.Subscript a b pos) (rdE c (mOp fDix ma mb)) :=
  PEw (pe_dget (by omega) ha hb hs) fun _ _ _ q => rd_op os_dix q
end
section
variable {K : PySem.W.Frag} {F Hk H : Hp} {bp : List (Nat × Addr)} {σ : L2.St} {ρ : Env}
theorem RS.frame (S : RS K F Hk H bp σ ρ) {p : Addr} (o : HO) (h : H p = none) : RS K (upd F p o) Hk (upd H p o) bp σ ρ := by
  obtain ⟨ow, s⟩ := S.ow
  have np : ∀ i a, a ∈ ow i → a ≠ p := fun i a ha z => s.fresh h i (by rw [← z]; exact ha)
  have s2 : SL K F Hk (upd H p o) ow σ ρ := s.step (Ex.refl _) fun i a ha => ⟨upd_ne (np i a ha), (s.f i a ha).1⟩
  have hk : Hk p = none := S.ex.back h
  refine ⟨S.len, S.ex.mut hk, fun a u q => ?_, fun a u q => ?_, ⟨ow, s2.s, fun i a q => ⟨(s2.f i a q).1, by rw [upd_ne (np i a q)]; exact (s2.f i a q).2.1, (s2.f i a q).2.2⟩, s2.w, s2.d⟩, S.bor⟩
  · by_cases e : a = p
    · subst e; rw [upd_same] at q ⊢; exact q
    · rw [upd_ne e] at q ⊢; exact S.fr a u q
  · by_cases e : a = p
    · subst e; exact hk
    · rw [upd_ne e] at q; exact S.frk a u q
theorem RS.unframe {p : Addr} {o : HO} (S : RS K (upd F p o) Hk H bp σ ρ) (hF : F p = none) : RS K F Hk H bp σ ρ := by
  have ne : ∀ a u, F a = some u → a ≠ p := fun a u q z => by subst z; rw [hF] at q; cases q
  obtain ⟨ow, s⟩ := S.ow
  refine ⟨S.len, S.ex, fun a u q => S.fr a u (by rw [upd_ne (ne a u q)]; exact q), fun a u q => S.frk a u (by rw [upd_ne (ne a u q)]; exact q), ⟨ow, s.s, fun i a q => ⟨(s.f i a q).1, ?_, (s.f i a q).2.2⟩, s.w, s.d⟩, S.bor⟩
  have z := (s.f i a q).2.1
  by_cases e : a = p
  · subst e; rw [upd_same] at z; cases z
  · rw [upd_ne e] at z; exact z
theorem RS.landD {p : Addr} {o : HO} (S : RS K (upd F p o) Hk H bp σ ρ) (hF : F p = none) (o2 : HO) : RS K F (upd Hk p o2) (upd H p o2) bp σ ρ := by
  have ne : ∀ a u, F a = some u → a ≠ p := fun a u q z => by subst z; rw [hF] at q; cases q
  have hk : Hk p = none := S.frk p o upd_same
  have S2 := S.unframe hF
  obtain ⟨ow0, s0⟩ := S.ow
  have np : ∀ i a, a ∈ ow0 i → a ≠ p := fun i a ha z => by
    have := (s0.f i a ha).2.1
    subst z
    rw [upd_same] at this; cases this
  have s1 : SL K F Hk H ow0 σ ρ := by
    refine ⟨s0.s, fun i a q => ⟨(s0.f i a q).1, ?_, (s0.f i a q).2.2⟩, s0.w, s0.d⟩
    have z := (s0.f i a q).2.1
    rw [upd_ne (np i a q)] at z; exact z
  refine ⟨S.len, fun a u q => ?_, fun a u q => ?_, fun a u q => ?_, ⟨ow0, s1.step (Ex.new hk) fun i a ha => ⟨upd_ne (np i a ha), by rw [upd_ne (np i a ha)]; exact (s1.f i a ha).1⟩⟩, S.bor⟩
  · by_cases e : a = p
    · subst e; rw [upd_same] at q ⊢; exact q
    · rw [upd_ne e] at q ⊢; exact S.ex a u q
  · rw [upd_ne (ne a u q)]; exact S2.fr a u q
  · rw [upd_ne (ne a u q)]; exact S2.frk a u q
end
structure DPs (X : Cx) (c : Ct) (pos : Pos) (keys : List (Option Expr)) (values : List Expr) (ks : List Key) (m : MA) : Prop where
  ex : ∃ trs, PPs X pos keys values trs ∧ ∀ (σ : L2.St) (H : Hp) (Q : List (V × V) → Hp → Prop), rdA c m σ H (fun vs H' => Q ((ks.map kV).zip vs) H') → tPairs trs σ H Q
section
variable {X : Cx} {c : Ct} {pos p1 p2 : Pos} {keys : List (Option Expr)} {values : List Expr} {ks : List Key} {m : MA} {v : Expr} {a : ME}
theorem dp_nil : DPs X c pos [] [] [] mNil := ⟨[], pps_nil, fun σ H Q h => by
  obtain ⟨F, Hk, bp, ρ, S, h⟩ := h
  exact h _ _ _ (Ex.refl _) S.1 (RVs.nil.mpr rfl)⟩
theorem dp_cons {kx : Expr} {k : Key} (hk : PE X kx (tC (kV k))) (hv : PE X v (rdE c a)) (r : DPs X c pos keys values ks m) : DPs X c pos (some kx :: keys) (v :: values) (k :: ks) (mCons a m) := by
  obtain ⟨trs, e1, e2⟩ := r.ex
  refine ⟨(tC (kV k), rdE c a) :: trs, pps_cons hk hv e1, fun σ H Q h => ?_⟩
  obtain ⟨F, Hk, bp, ρ, S, h⟩ := h
  show rdE c a σ H fun y H2 => tPairs trs σ H2 fun ps H3 => Q ((kV k, y) :: ps) H3
  refine rdw (bE postA S h) fun v H1 ⟨Hk1, x, ρ1, x1, S1, r1, h1⟩ => e2 _ _ _ ?_
  refine rdAw (bA postA S1 h1) fun vs H2 ⟨Hk2, xs, ρ2, x2, S2, r2, h2⟩ => ?_
  exact h2 _ _ _ (Ex.refl _) S2.1 (RVs.cons.mpr ⟨v, vs, rfl, RV.mono x2 _ _ r1, r2⟩)
theorem dp_str {z : Str} {j : Nat} (hv : PE X v (rdE c a)) (r : DPs X c pos keys values ks m) : DPs X c pos (some (.Constant (.str z) j p1) :: keys) (v :: values) (.inr z :: ks) (mCons a m) := dp_cons (k := .inr z) pe_str hv r
def mDict (ks : List Key) (m : MA) : ME := fun ρ => (m ρ).bind fun xs ρ1 => if decide (ks.length = xs.length) && decide (ks.length ≤ 15) && decide ks.Nodup then .ok (.dct ks xs, ρ1) else .stuck
theorem merge_nodup : ∀ (more kvs : List (Key × V)), (kvs.map (·.1) ++ more.map (·.1)).Nodup → mergeK kvs more = kvs ++ more
  | [], kvs, _ => by simp [mergeK]
  | p :: r, kvs, h => by
    have nk : valV kvs p.1 = none := by
      cases e : valV kvs p.1 with
      | none => rfl
      | some z =>
        exfalso
        have := valV_any p.1 kvs
        rw [e] at this
        simp only [Option.isSome_some] at this
        obtain ⟨q, hq, hq2⟩ := List.any_eq_true.mp this
        rw [List.map_cons] at h
        have := (List.nodup_append.mp h).2.2 q.1 (List.mem_map.mpr ⟨q, hq, rfl⟩) p.1 (by simp)
        exact this (of_decide_eq_true hq2)
    show mergeK (putK kvs p.1 p.2) r = _
    rw [putK_new p.2 nk, merge_nodup r (kvs ++ [(p.1, p.2)]) (by
      rw [List.map_append, List.append_assoc]
      simpa using h)]
    simp
theorem me_dict (h : DPs X c pos keys values ks m) (hall : keys.all (·.isSome) = true := by rfl) (hl : keys.length = values.length := by rfl) (h0 : keys ≠ [] := by intro z; cases z) (h15 : keys.length ≤ 15 := by decide) : PE X (.Dict keys values pos) (rdE c (mDict ks m)) := by
  obtain ⟨trs, e1, e2⟩ := h.ex
  refine PEw (pe_disp e1 hall hl h0 h15) fun σ H Q h => ?_
  obtain ⟨F, Hk, bp, ρ, S, h⟩ := h
  intro p hp
  have hF : F p = none := S.1.fr.back hp
  refine e2 _ _ _ ⟨upd F p (.dK []), Hk, bp, ρ, ⟨S.1.frame (.dK []) hp, S.2.1, c.Jm _ _ _ (Ex.new hF) S.2.2⟩, ?_⟩
  unfold mDict at h
  cases em : m ρ with
  | stuck => rw [em] at h; exact h.elim
  | exc e ρ1 =>
    rw [em] at h
    exact fun Hk' H' cls d x S1 er => h Hk' H' cls d x (S1.unframe hF) er
  | ok r =>
    obtain ⟨xs, ρ1⟩ := r
    rw [em] at h
    intro Hk2 H2 vs x S2 r2
    have h : okE c F Hk bp σ Q (if decide (ks.length = xs.length) && decide (ks.length ≤ 15) && decide ks.Nodup then .ok (.dct ks xs, ρ1) else .stuck) := h
    split at h
    · rename_i hc
      simp only [Bool.and_eq_true, decide_eq_true_eq] at hc
      obtain ⟨⟨c1, c2⟩, c3⟩ := hc
      have lv : ks.length = vs.length := by rw [c1, r2.length]
      have mz : (ks.zip vs).map (·.1) = ks := by
        rw [← List.unzip_fst, List.unzip_zip lv]
      refine ⟨S2.fr p _ upd_same, ks.zip vs, ?_, by rw [List.length_zip]; omega, ?_⟩
      · rw [List.zip_map_left]; rfl
      · rw [merge_nodup _ _ (by rw [mz]; simpa using c3), List.nil_append]
        have S3 := S2.landD hF (.dK (ks.zip vs))
        have hk2 : Hk2 p = none := S2.frk p _ upd_same
        exact h _ _ _ (x.trans (Ex.new hk2)) S3 (RV.dct.mpr ⟨p, vs, rfl, upd_same, c1, r2.mono (Ex.new hk2)⟩)
    · exact h.elim
end
def dctIs : List (Str × MV) → List DictEntry → Bool
  | [], [] => true
  | p :: t, e :: r => e.key.isStr p.1 && flatIs p.2 e.val && dctIs t r
  | _, _ => false
structure DCst (K : PySem.W.Frag) (w : World) (mg : Str → Option Value) (x : Str) (tab : List (Str × MV)) : Prop where
  ex : ∃ a es n, mg x = some (.ref a) ∧ KDict K w a es n ∧ dctIs tab es.toList = true
theorem isStr_key {k : Value} {z : Str} (h : k.isStr z = true) : ∃ t, k = .str z t := by
  rw [PySem.W.isStr_of] at h
  exact Value.isStrOf_shape h
theorem dct_find (z : Str) : ∀ {tab : List (Str × MV)} {es : List DictEntry}, dctIs tab es = true → (tab.lookup z = none → es.find? (·.key.isStr z) = none ∧ es.any (·.refKey) = false) ∧ ∀ v, tab.lookup z = some v → ∃ e, es.find? (·.key.isStr z) = some e ∧ flatIs v e.val = true
  | [], [], _ => ⟨fun _ => ⟨rfl, rfl⟩, fun v h => by simp at h⟩
  | [], _ :: _, h => by simp [dctIs] at h
  | _ :: _, [], h => by simp [dctIs] at h
  | p :: t, e :: r, h => by
    simp only [dctIs, Bool.and_eq_true] at h
    obtain ⟨⟨h1, h2⟩, h3⟩ := h
    obtain ⟨tk, ek⟩ := isStr_key h1
    obtain ⟨i1, i2⟩ := dct_find z h3
    rw [List.lookup_cons, List.find?_cons, List.any_cons]
    by_cases q : z = p.1
    · subst q
      rw [h1]
      simp only [BEq.rfl]
      exact ⟨fun h => (by cases h), fun v hv => ⟨e, rfl, (by cases hv; exact h2)⟩⟩
    · have b1 : (z == p.1) = false := by simpa using q
      have b2 : e.key.isStr z = false := by
        cases hb : e.key.isStr z with
        | false => rfl
        | true =>
          obtain ⟨t2, e2⟩ := isStr_key hb
          rw [ek] at e2
          cases e2
          exact absurd rfl q
      have b3 : e.refKey = false := by
        unfold DictEntry.refKey
        rw [ek]
      rw [b1, b2, b3]
      exact ⟨i1, i2⟩
theorem flat_isA {K : PySem.W.Frag} {x : MV} {v : Value} (h : flatIs x v = true) : ∃ w, RelV w v ∧ ∀ H, RV K H x w := by
  unfold flatIs at h
  split at h
  · rw [beq_iff_eq.mp h]; exact ⟨.int _, ⟨_, rfl⟩, fun _ => RV.int.mpr rfl⟩
  · rw [beq_iff_eq.mp h]; exact ⟨.str _, ⟨_, rfl⟩, fun _ => RV.str.mpr rfl⟩
  · exact ⟨.non, rfl, fun _ => RV.non.mpr rfl⟩
  · rw [beq_iff_eq.mp h]; exact ⟨.bl _, rfl, fun _ => RV.bl.mpr rfl⟩
  · cases h
theorem dct_ns {K : PySem.W.Frag} {w : World} {a : Addr} {es : Array DictEntry} {n : Nat} {tab : List (Str × MV)} (D : KDict K w a es n) (h : dctIs tab es.toList = true) (z : Str) :
    (tab.lookup z = none → PySem.W.nsIn K a z = some none) ∧ ∀ v, tab.lookup z = some v → ∃ u y, PySem.W.nsIn K a z = some (some u) ∧ RelV y u ∧ ∀ H, RV K H v y := by
  obtain ⟨i1, i2⟩ := dct_find z h
  unfold PySem.W.nsIn
  rw [D.at_]
  refine ⟨fun hz => ?_, fun v hv => ?_⟩
  · obtain ⟨a1, a2⟩ := i1 hz
    simp only [a1, a2]
    rfl
  · obtain ⟨e, a1, a2⟩ := i2 v hv
    simp only [a1]
    obtain ⟨y, r1, r2⟩ := flat_isA (K := K) a2
    exact ⟨e.val, y, rfl, r1, r2⟩
section
variable {X : Cx} {c : Ct} {pos p apos cpos : Pos} {x : Str} {tab : List (Str × MV)} {e : Expr} {m : ME}
def mKin (tab : List (Str × MV)) (a : ME) : ME := fun ρ => (a ρ).bind fun x ρ1 => match x with
  | .str z => .ok (.bl (tab.lookup z).isSome, ρ1)
  | _ => .stuck
def mKix (tab : List (Str × MV)) (a : ME) : ME := fun ρ => (a ρ).bind fun x ρ1 => match x with
  | .str z => (match tab.lookup z with | some v => .ok (v, ρ1) | none => .stuck)
  | _ => .stuck
def mKget (tab : List (Str × MV)) (a : ME) : ME := fun ρ => (a ρ).bind fun x ρ1 => match x with
  | .str z => .ok ((tab.lookup z).getD .non, ρ1)
  | _ => .stuck
theorem mt_kin (D : DCst X.K X.w X.mg x tab) (he : PE X e (rdE c m)) (hg : Gl X x := by rfl) (hm : behindInMarks .In (.Name x p) = false := by rfl) (hK : c.K = X.K := by rfl) (hd : (x == ("__debug__" : Str)) = false := by decide) : PT X (.Compare e [.In] [.Name x p] pos) (rdT c (mTest (mKin tab m))) := by
  obtain ⟨a, es, n, h1, h2, h3⟩ := D.ex
  refine PTw (pt_cmpR (op_in_kd h2) he (pe_glob hg h1 (v := .ref a) rfl hd) hm) fun σ H Q h => ?_
  have h := rd_test h
  obtain ⟨F, Hk, bp, ρ, S, h⟩ := h
  refine rdw (bE postE S h) fun v H1 ⟨Hk1, y, ρ1, x1, S1, r1, q1⟩ => ?_
  split at q1
  · rename_i z
    obtain rfl := RV.str.mp r1
    obtain ⟨n1, n2⟩ := dct_ns h2 h3 z
    cases el : tab.lookup z with
    | none => rw [el] at q1; exact ⟨z, none, rfl, rfl, n1 el, q1 _ _ _ (Ex.refl _) S1.1 (RV.bl.mpr rfl)⟩
    | some w =>
      obtain ⟨u, y2, e1, _, _⟩ := n2 w el
      rw [el] at q1
      exact ⟨z, some u, rfl, rfl, e1, q1 _ _ _ (Ex.refl _) S1.1 (RV.bl.mpr rfl)⟩
  · exact q1.elim
theorem me_kix (D : DCst X.K X.w X.mg x tab) (he : PE X e (rdE c m)) (hg : Gl X x := by rfl) (hs : PlainIx e := by exact fun _ _ => rfl) (hK : c.K = X.K := by rfl) (hd : (x == ("__debug__" : Str)) = false := by decide) : PE X (.Subscript (.Name x p) e pos) (rdE c (mKix tab m)) := by
  obtain ⟨a, es, n, h1, h2, h3⟩ := D.ex
  refine PEw (pe_ix ix_kdict (pe_glob hg h1 (v := .ref a) rfl hd) he hs) fun σ H Q h => ?_
  show rdE c m σ H fun y H2 => rIxD X.K X.w (.ref a) y H2 Q
  obtain ⟨F, Hk, bp, ρ, S, h⟩ := h
  refine rdw (bE postE S h) fun v H1 ⟨Hk1, y, ρ1, x1, S1, r1, q1⟩ => ?_
  split at q1
  · rename_i z
    obtain rfl := RV.str.mp r1
    obtain ⟨n1, n2⟩ := dct_ns h2 h3 z
    cases el : tab.lookup z with
    | none => rw [el] at q1; exact q1.elim
    | some w =>
      obtain ⟨u, y2, e1, e2, e3⟩ := n2 w el
      rw [el] at q1
      exact ⟨a, z, y2, rfl, rfl, ⟨es, n, u, h2.at_, h2.lit, e1, e2⟩, q1 _ _ _ (Ex.refl _) S1.1 (by rw [hK]; exact e3 _)⟩
  · exact q1.elim
theorem pe_kget {te : TE} {a : Addr} {es : Array DictEntry} {n : Nat} (h1 : X.mg x = some (.ref a)) (D : KDict X.K X.w a es n) (he : PE X e te) (m : M1 X (.Name x p) "get" apos e cpos) (hg : Gl X x := by rfl) (hd : (x == ("__debug__" : Str)) = false := by decide) :
    PE X (.Call (.Attribute (.Name x p) "get" apos) [e] [] cpos) (fun σ H Q => te σ H fun y H2 => ∃ z r v, y = .str z ∧ PySem.W.nsIn X.K a z = some r ∧ (∀ u, r = some u → RelV v u) ∧ (r = none → v = .non) ∧ Q v H2) := by
  refine ⟨fun pins s σ H Q I h => ?_⟩
  refine wpAny_Call_method m.base m.few m.line PySem.F.plainAttrs_dict PySem.F.slot_dict_get PySem.F.type_dict_get (ld_glob I hg h1 ?_ hd)
  have hm := PySem.W.mapOf_K (prog := X.prog) (w := X.w) I.kIn D.at_ D.lit
  refine ⟨hm.typeIs, fun b q => ?_, ?_⟩
  · cases q
    exact ⟨_, I.kIn _ _ D.at_, rfl⟩
  · rw [m.trees]
    refine Calls.callWith_builtin rfl (Calls.evalArgs_plain (Calls.spliced_cons (thn (he.run pins s σ H _ I h) fun iv s2 ⟨y, H2, I2, ry, z, r, v, ey, en, v1, v2, q2⟩ => Calls.spliced_nil ?_)))
    subst ey
    obtain ⟨t, rfl⟩ := ry
    have hm2 := PySem.W.mapOf_K (prog := X.prog) (w := X.w) I2.kIn D.at_ D.lit
    refine call_meetsIn PySem.F.slot_dict_get hm2.typeIs PySem.F.entry_dict_get (PySem.F.args_dict_get_2 _ _) (meets_dict_get (strKind X.prog X.w) a (strKind_is X.prog X.w z t) D.low) ⟨_, hm2, ?_⟩
    have fd := PySem.W.find_K D.at_ en
    rw [fd]
    cases r with
    | none => rw [v2 rfl] at q2; exact ⟨.non, H2, I2.tok _, rfl, q2⟩
    | some u => exact ⟨v, H2, I2.tok _, v1 u rfl, q2⟩
theorem me_kget (D : DCst X.K X.w X.mg x tab) (he : PE X e (rdE c m)) (m1 : M1 X (.Name x p) "get" apos e cpos) (hg : Gl X x := by rfl) (hd : (x == ("__debug__" : Str)) = false := by decide) (hK : c.K = X.K := by rfl) : PE X (.Call (.Attribute (.Name x p) "get" apos) [e] [] cpos) (rdE c (mKget tab m)) := by
  obtain ⟨a, es, n, h1, h2, h3⟩ := D.ex
  refine PEw (pe_kget h1 h2 he m1 hg hd) fun σ H Q h => ?_
  obtain ⟨F, Hk, bp, ρ, S, h⟩ := h
  refine rdw (bE postE S h) fun v H1 ⟨Hk1, y, ρ1, x1, S1, r1, q1⟩ => ?_
  split at q1
  · rename_i z
    obtain rfl := RV.str.mp r1
    obtain ⟨n1, n2⟩ := dct_ns h2 h3 z
    cases el : tab.lookup z with
    | none => rw [el] at q1; exact ⟨z, none, .non, rfl, n1 el, fun u h => (by cases h), fun _ => rfl, q1 _ _ _ (Ex.refl _) S1.1 (RV.non.mpr rfl)⟩
    | some w =>
      obtain ⟨u, y2, e1, e2, e3⟩ := n2 w el
      rw [el] at q1
      exact ⟨z, some u, y2, rfl, e1, fun u' h => (by cases h; exact e2), fun h => (by cases h), q1 _ _ _ (Ex.refl _) S1.1 (by rw [hK]; exact e3 _)⟩
  · exact q1.elim
end
end Tm
set_option Elab.async false
set_option linter.all false
set_option maxRecDepth 100000
set_option maxHeartbeats 2000000
namespace Tm
open PySem L2 PySem.Spec PyProof.Rows
open Evl (Ex ex_rd ex_l ex_t)
theorem meets_enumT {v : Value} {o : Obj} {H : Heap → Prop} (B : Begins v o H) :
    Meets (Builtin.«enumerate.__new__» ⟨[.type "enumerate", v], []⟩) (fun _ R s => H s.heap ∧
      R (.ok (.ret (.ref (s.heap.push o).objs.size))) { s with heap := (s.heap.push o).push { cls := .type "enumerate", data := .fields #[.none, .bool false, .ref s.heap.objs.size, rawInt 0, .none, .none] } }) :=
  .of_wp fun prog w A R s h => by
    obtain ⟨hp, g, d, tk, os⟩ := s; obtain ⟨h1, h⟩ := h
    have hsub := sub_enumerate
    have q1 : ∀ {A' : Around} {E : Value → Shared → Prop} {Q : Value → Shared → Prop}, Q (.ref hp.objs.size) ⟨hp.push o, g, d, tk, os⟩ → wpAny (model prog w) A' (pyIter v) Q E ⟨hp, g, d, tk, os⟩ :=
      fun q => B.iter prog w _ _ ⟨hp, g, d, tk, os⟩ _ h1 q
    wp_walk using q1
    refine wpAny_stack_any fun st => wpAny_pure ?_
    split
    · rename_i c _ _ _ _ _
      cases (c == Value.type "enumerate")
      · wp_walk using q1
        exact ⟨_, rfl, h⟩
      · wp_walk using q1
        exact ⟨_, rfl, h⟩
    · wp_walk using q1
      exact ⟨_, rfl, h⟩
section
variable {prog : Program} {w : World} {A : Around} {E : Value → Shared → Prop} {s : Shared}
theorem enum_beginsT {v : Value} {o : Obj} {H : Heap → Prop} {Q : Value → Shared → Prop} (B : Begins v o H) (h1 : H s.heap)
    (h : ∀ h', IsEnum h' (s.heap.objs.size + 1) s.heap.objs.size 0 .none → h'.get? s.heap.objs.size = some o → h'.objs.size = s.heap.objs.size + 2 →
      (∀ b o, s.heap.get? b = some o → h'.get? b = some o) → Q (.ref (s.heap.objs.size + 1)) { s with heap := h' }) :
    wpAny (model prog w) A (call (.type "enumerate") [v]) Q E s := by
  refine callType_new F.called_enumerate (by decide) (F.typeCall_enumerate_1 _) (F.newCall_enumerate_1 _) (fun obj => F.args_object_init_2 obj _) F.entry_enumerate_new
    (meets_enumT B) ⟨h1, ?_⟩
  have hz : (s.heap.push o).objs.size = s.heap.objs.size + 1 := Heap.size_push ..
  show _ ∧ _
  rw [hz]
  have he : IsEnum ((s.heap.push o).push { cls := .type "enumerate", data := .fields #[.none, .bool false, .ref s.heap.objs.size, rawInt 0, .none, .none] }) (s.heap.objs.size + 1) s.heap.objs.size 0 .none := by
    have := Heap.get?_push_size (s.heap.push o) (o := { cls := .type "enumerate", data := .fields #[.none, .bool false, .ref s.heap.objs.size, rawInt 0, .none, .none] }) rfl
    rw [hz] at this; exact this
  refine ⟨⟨_, he, rfl⟩, h _ he (Heap.get?_push_of_some _ (Heap.get?_push_size _ B.free)) (by rw [Heap.size_push, hz]) fun b o x => Heap.get?_push_of_some _ (Heap.get?_push_of_some _ x)⟩
end
theorem pi_enumT {X : Cx} {e : Expr} {ta : TA} {p pos tpos : Pos} {elts : List Expr} {kk : Nat} (hg : Gl X "enumerate") (hm : X.mg "enumerate" = none) (ha : PA X [e] ta) (hs : starEach [e] X.env = [(false, eval e X.env)] := by rfl) :
    PI X (.Tuple elts kk tpos) (.Call (.Name "enumerate" p) [e] [] pos) (iEnumK 0 X.K ta) := by
  refine ⟨fun pins s σ H R I h => ?_⟩
  refine Call_ (ld_blt I hg hm boot_enumerate (PyProof.Rows.callWith_type1 (thn (ha.run pos pins s σ H _ I h) fun us s1 ⟨vs, H1, I1, r1, v, S, ex, z1, q⟩ => ?_) hs rfl))
  subst ex
  cases r1 with
  | cons ra rr =>
    cases rr
    obtain ⟨o1, Hb1, fp1, B1, b1, lt1, k1⟩ := zarg_begins I1 ra z1
    obtain ⟨tn1, A1, t1⟩ := k1 s1.heap.objs.size (Nat.le_refl _)
    refine enum_beginsT B1 b1 fun h' he' hit hsz hkp => wpAny_pyIter_enum he' ?_
    have I3 : Inv X pins σ H1 { s1 with heap := h' } := I1.kept (t' := s1.toks) hkp
    refine ⟨s1.heap.objs.size + 1, [s1.heap.objs.size + 1, s1.heap.objs.size], _, _, H1, rfl, I3, turn_enumK 0 A1 (Nat.succ_ne_self _) (fun hm2 => ?_), ⟨⟨.none, he'⟩, t1 h' hit⟩, fun b hb => ?_, q⟩
    · rcases List.mem_cons.mp hm2 with z | z
      · exact absurd z (Nat.succ_ne_self _)
      · exact absurd (lt1 _ z) (Nat.not_lt.mpr (Nat.le_succ _))
    · have e' : b = s1.heap.objs.size + 1 ∨ b = s1.heap.objs.size := by simpa using hb
      have hle : s1.heap.objs.size ≤ b := by
        rcases e' with z | z
        · rw [z]; exact Nat.le_add_right _ _
        · rw [z]; exact Nat.le_refl _
      exact I1.fpOk hle (I1.hok.fresh hle)
theorem mi_enumT {X : Cx} {c : Ct} {e : Expr} {m : MA} {p pos tpos : Pos} {elts : List Expr} {kk : Nat} (hm : X.mg "enumerate" = none) (ha : PA X [e] (rdA c m)) (hg : Gl X "enumerate" := by rfl) (hK : c.K = X.K := by rfl)
    (hs : starEach [e] X.env = [(false, eval e X.env)] := by rfl) :
    PI X (.Tuple elts kk tpos) (.Call (.Name "enumerate" p) [e] [] pos) (rdI c (mEnumK 0 m)) :=
  PIw (pi_enumT hg hm ha hs) fun σ H R ⟨F, Hk, bp, ρ, S, h⟩ => rdAw (bA postI S h) fun vs H1 ⟨Hk1, xs, ρ1, x1, S1, r1, h1⟩ => by
    split at h1
    · split at h1
      · rename_i z1
        obtain ⟨v, r, rfl, q1, q2⟩ := RVs.cons.mp r1
        rw [RVs.nil.mp q2]
        obtain ⟨T1, y1, y2⟩ := zit_arg S1.1.ex q1 z1
        exact ⟨v, T1, rfl, hK ▸ y1, h1 _ _ _ (Ex.refl _) S1.1 (walks_ek 0 y2)⟩
      · exact h1.elim
    · exact h1.elim
end Tm
set_option Elab.async false
set_option linter.all false
set_option maxRecDepth 100000
set_option maxHeartbeats 2000000
namespace Tm
open PySem L2
open Evl (Ex ex_rd ex_l ex_t)
theorem OV.dow {K : PySem.W.Frag} {Hk H : Hp} {ks : List Key} {xs : List MV} {v : V} {A : List Addr} : OV K Hk H (.dow ks xs) v A ↔ ∃ p vs, v = .ref p ∧ A = [p] ∧ H p = some (.dK (ks.zip vs)) ∧ ks.length = xs.length ∧ RVs K Hk xs vs := by
  unfold OV OF; rfl
end Tm
set_option Elab.async false
set_option linter.all false
set_option maxRecDepth 100000
set_option maxHeartbeats 2000000
namespace Tm
open PySem L2 PySem.Spec PyProof.Rows
open Evl (Ex ex_rd ex_l ex_t)
inductive Tst
  | one (c : Value)
  | two (c1 c2 : Value)
inductive TstE (X : Cx) : Expr → Tst → Prop
  | one {y : Str} {c : Value} {np : Pos} (hc : Names X y c) : TstE X (.Name y np) (.one c)
  | two {y1 y2 : Str} {c1 c2 : Value} {p1 p2 tp : Pos} {k : Nat} (h1 : Names X y1 c1) (h2 : Names X y2 c2) : TstE X (.Tuple [.Name y1 p1, .Name y2 p2] k tp) (.two c1 c2)
theorem TstE.suite {X : Cx} {te : Expr} {t : Tst} (h : TstE X te t) (a : Addr) (pn : List (Addr × Obj)) : TstE (X.suite a pn) te t := by
  cases h with
  | one hc => exact .one hc
  | two h1 h2 => exact .two h1 h2
inductive HdT (X : Cx) (n : Str) : List ExceptHandler → List (Tst × (Addr → Value → Option Addr → TS)) → Prop
  | nil : HdT X n [] []
  | cons {te : Expr} {t : Tst} {ts : Addr → Value → Option Addr → TS} {b₀ : Stmt} {suite : List Stmt} {p : Pos} {hds : List ExceptHandler} {l : List (Tst × (Addr → Value → Option Addr → TS))} (hc : TstE X te t)
      (hsu : ∀ (a : Addr) (oe : Obj) (cls : Value) (d : Option Addr) (pn : List (Addr × Obj)), L2N.Zn cls d oe → (∃ vs, oe.data = .fields vs) → PSs (X.suite a ((a, oe) :: pn)) (b₀ :: suite) (ts a cls d)) (r : HdT X n hds l) :
      HdT X n (.ExceptHandler (some te) (some n) (b₀ :: suite) p :: hds) ((t, ts) :: l)
structure ExT2 (K : PySem.W.Frag) (mg : Str → Option Value) (y1 y2 : Str) (x : Str) (b : Bool) : Prop where
  ex : ∃ C D1 D2, mg x = some (.ref C) ∧ mg y1 = some (.ref D1) ∧ mg y2 = some (.ref D2) ∧ PySem.W.exmAny K (.ref C) [.ref D1, .ref D2] = some b
inductive HdMT (X : Cx) (c : Ct) (i : Nat) (n : Str) : List ExceptHandler → List (List (Str × Bool) × (MX → MS)) → Prop
  | nil : HdMT X c i n [] []
  | cons {y : Str} {b₀ : Stmt} {suite : List Stmt} {np p : Pos} {hds : List ExceptHandler} {tab : List (Str × Bool)} {mh : MX → MS} {l : List (List (Str × Bool) × (MX → MS))} (hg : Gl X y) (ht : ∀ p ∈ tab, ExT X.K X.mg y p.1 p.2) (hne : ∃ D, X.mg y = some (.ref D))
      (hsu : ∀ (a : Addr) (oe : Obj) (C : Addr) (d : Option Addr) (pn : List (Addr × Obj)) (e : MX), X.mg e.cls = some (.ref C) → (e.cls, true) ∈ tab → L2N.Zn (.ref C) d oe → (∃ vs, oe.data = .fields vs) → PSs (X.suite a ((a, oe) :: pn)) (b₀ :: suite) (rdS (cH c i a e d) (mh e)))
      (hdb : (y == ("__debug__" : Str)) = false) (r : HdMT X c i n hds l) :
      HdMT X c i n (.ExceptHandler (some (.Name y np)) (some n) (b₀ :: suite) p :: hds) ((tab, mh) :: l)
  | two {y1 y2 : Str} {b₀ : Stmt} {suite : List Stmt} {p1 p2 tp p : Pos} {k : Nat} {hds : List ExceptHandler} {tab : List (Str × Bool)} {mh : MX → MS} {l : List (List (Str × Bool) × (MX → MS))} (hg1 : Gl X y1) (hg2 : Gl X y2) (ht : ∀ p ∈ tab, ExT2 X.K X.mg y1 y2 p.1 p.2) (hne1 : ∃ D, X.mg y1 = some (.ref D)) (hne2 : ∃ D, X.mg y2 = some (.ref D))
      (hsu : ∀ (a : Addr) (oe : Obj) (C : Addr) (d : Option Addr) (pn : List (Addr × Obj)) (e : MX), X.mg e.cls = some (.ref C) → (e.cls, true) ∈ tab → L2N.Zn (.ref C) d oe → (∃ vs, oe.data = .fields vs) → PSs (X.suite a ((a, oe) :: pn)) (b₀ :: suite) (rdS (cH c i a e d) (mh e)))
      (hdb1 : (y1 == ("__debug__" : Str)) = false) (hdb2 : (y2 == ("__debug__" : Str)) = false) (r : HdMT X c i n hds l) :
      HdMT X c i n (.ExceptHandler (some (.Tuple [.Name y1 p1, .Name y2 p2] k tp)) (some n) (b₀ :: suite) p :: hds) ((tab, mh) :: l)
end Tm
set_option Elab.async false
set_option linter.all false
set_option maxRecDepth 100000
set_option maxHeartbeats 2000000
namespace Tm
open PySem L2 PySem.Spec PyProof.Rows
open Evl (Ex ex_rd ex_l ex_t)
structure FnF (P : Program) (w : World) (K : PySem.W.Frag) (mg : Str → Option Value) (base : Heap) (j n : Nat) (T : List (Str × MF)) : Prop where
  ex : ∀ x f, T.lookup x = some f → ∀ a, PySem.W.nsIn K mainGlobals x = some (some (.ref a)) → ∃ j' fd ps, j' ≤ j ∧ FnOk P w K mg base (L2N.CX P w) j' a fd ps (spF K mg n [] f) ∧ PySem.W.keepIn K (.ref a) = true ∧ Binds K fd ps []
end Tm
set_option Elab.async false
set_option linter.all false
set_option maxRecDepth 100000
set_option maxHeartbeats 2000000
namespace Tm
open PySem L2
open Evl (Ex ex_rd ex_l ex_t)
mutual
theorem nh_eq (w : World) : ∀ {x : MV} {k : NestedKey}, nkI x = some k → k.hash w = nh k
  | .int i, k, h => by unfold nkI at h; cases h; rfl
  | .tup xs, k, h => by
    unfold nkI at h
    obtain ⟨ks, h1, rfl⟩ := Option.map_eq_some_iff.mp h
    show reduceHash (Builtin.Tuple.tupleHashOf (NestedKey.hashes w ks)) = reduceHash (Builtin.Tuple.tupleHashOf (nhs ks))
    rw [nhs_eq w h1]
  | .non, k, h => by simp [nkI] at h
  | .bl _, k, h => by simp [nkI] at h
  | .str _, k, h => by simp [nkI] at h
  | .lst _, k, h => by simp [nkI] at h
  | .own _, k, h => by simp [nkI] at h
  | .raw _, k, h => by simp [nkI] at h
  | .scr _, k, h => by simp [nkI] at h
  | .fnc _, k, h => by simp [nkI] at h
  | .obj _ _, k, h => by simp [nkI] at h
  | .dct _ _, k, h => by simp [nkI] at h
  | .dow _ _, k, h => by simp [nkI] at h
  | .dot _ _, k, h => by simp [nkI] at h
theorem nhs_eq (w : World) : ∀ {xs : List MV} {ks : List NestedKey}, nkIs xs = some ks → NestedKey.hashes w ks = nhs ks
  | [], ks, h => by unfold nkIs at h; cases h; rfl
  | x :: xs, ks, h => by
    unfold nkIs at h
    split at h
    · rename_i k r h1 h2
      cases h
      show k.hash w :: NestedKey.hashes w r = nh k :: nhs r
      rw [nh_eq w h1, nhs_eq w h2]
    · cases h
end
section
variable {X : Cx} {pins : List (Addr × Obj)} {σ : St} {H Hk : Hp} {s : Shared}
mutual
theorem nkI_is (I : Inv X pins σ H s) (ex : Ex Hk H) : ∀ {x : MV} {k : NestedKey} {v : V} {u : Value}, nkI x = some k → RV X.K Hk x v → RelV v u → NestedIs s.heap k u
  | .int i, k, v, u, h, r, ru => by
    unfold nkI at h; cases h
    rw [RV.int] at r; subst r
    obtain ⟨t, rfl⟩ := (show ∃ t, u = Value.int i t from ru)
    exact .int i t
  | .tup xs, k, v, u, h, r, ru => by
    unfold nkI at h
    obtain ⟨ks, h1, rfl⟩ := Option.map_eq_some_iff.mp h
    rw [RV.tup] at r
    obtain ⟨a, vs, rfl, q, rs⟩ := r
    obtain rfl : u = Value.ref a := ru
    obtain ⟨its, vl, ⟨o, ho, hc, n, hd⟩, _⟩ := I.tuple (ex_t ex q)
    refine .tup ho hc hd ?_
    rw [List.toList_toArray]
    exact nkIs_are I ex h1 rs vl
  | .non, k, v, u, h, r, ru => by simp [nkI] at h
  | .bl _, k, v, u, h, r, ru => by simp [nkI] at h
  | .str _, k, v, u, h, r, ru => by simp [nkI] at h
  | .lst _, k, v, u, h, r, ru => by simp [nkI] at h
  | .own _, k, v, u, h, r, ru => by simp [nkI] at h
  | .raw _, k, v, u, h, r, ru => by simp [nkI] at h
  | .scr _, k, v, u, h, r, ru => by simp [nkI] at h
  | .fnc _, k, v, u, h, r, ru => by simp [nkI] at h
  | .obj _ _, k, v, u, h, r, ru => by simp [nkI] at h
  | .dct _ _, k, v, u, h, r, ru => by simp [nkI] at h
  | .dow _ _, k, v, u, h, r, ru => by simp [nkI] at h
  | .dot _ _, k, v, u, h, r, ru => by simp [nkI] at h
theorem nkIs_are (I : Inv X pins σ H s) (ex : Ex Hk H) : ∀ {xs : List MV} {ks : List NestedKey} {vs : List V} {us : List Value}, nkIs xs = some ks → RVs X.K Hk xs vs → Vals vs us → NestedAll s.heap ks us
  | [], ks, vs, us, h, r, ru => by
    unfold nkIs at h; cases h
    rw [RVs.nil] at r; subst r
    cases ru
    exact .nil
  | x :: xs, ks, vs, us, h, r, ru => by
    unfold nkIs at h
    split at h
    · rename_i k ks' h1 h2
      cases h
      rw [RVs.cons] at r
      obtain ⟨v, vr, rfl, r1, r2⟩ := r
      cases ru with
      | cons a b => exact .cons (nkI_is I ex h1 r1 a) (nkIs_are I ex h2 r2 b)
    · cases h
end
end
def NKey (X : Cx) (H : Hp) (k : NestedKey) (b : Addr) : Prop := ∀ {pins : List (Addr × Obj)} {σ : St} {s : Shared}, Inv X pins σ H s → NestedIs s.heap k (.ref b) ∧ k.depth ≤ 8 ∧ k.hash X.w = nh k
theorem NKey.of {X : Cx} {H Hk : Hp} {x : MV} {k : NestedKey} {b : Addr} (ex : Ex Hk H) (h : nkI x = some k) (hd : k.depth ≤ 8) (r : RV X.K Hk x (.ref b)) : NKey X H k b := fun I => ⟨nkI_is I ex h r rfl, hd, nh_eq X.w h⟩
def NKeys (X : Cx) (H : Hp) (l : List (NestedKey × Addr × V)) : Prop := ∀ p ∈ l, NKey X H p.1 p.2.1
theorem KN.keys {X : Cx} {H Hk : Hp} (ex : Ex Hk H) : ∀ {ks xs : List MV} {l : List (NestedKey × Addr × V)}, KN X.K Hk ks xs l → NKeys X H l
  | [], [], _, h => by cases h; intro p hp; cases hp
  | [], _ :: _, _, h => h.elim
  | _ :: _, [], _, h => h.elim
  | k :: ks, x :: xs, _, h => by
    obtain ⟨nk, a, v, r, rfl, h2, h3, h4, h5, h6⟩ := h
    intro p hp
    rcases List.mem_cons.mp hp with rfl | hp
    · exact NKey.of ex h2 h3 h4
    · exact KN.keys ex h6 p hp
section
variable {X : Cx} {pins : List (Addr × Obj)} {σ : St} {H : Hp} {s : Shared} {a : Addr} {l : List (NestedKey × Addr × V)}
def NP (l : List (NestedKey × Addr × V)) (xs : List (NestedKey × Addr × Value)) : Prop := Paired (fun (a : NestedKey × Addr × V) (b : NestedKey × Addr × Value) => a.1 = b.1 ∧ a.2.1 = b.2.1 ∧ RelV a.2.2 b.2.2) l xs
theorem NP.keys {l : List (NestedKey × Addr × V)} {xs : List (NestedKey × Addr × Value)} (r : NP l xs) : ∀ x ∈ xs, ∃ p ∈ l, p.1 = x.1 ∧ p.2.1 = x.2.1 := by
  unfold NP at r
  induction r with
  | nil => intro x hx; cases hx
  | cons h t ih =>
    rename_i a b l1 l2
    intro x hx
    rcases List.mem_cons.mp hx with rfl | hx
    · exact ⟨_, List.mem_cons_self .., h.1, h.2.1⟩
    · obtain ⟨p, hp, e⟩ := ih x hx
      exact ⟨p, List.mem_cons_of_mem _ hp, e⟩
def nAt (l : List (NestedKey × Addr × V)) (k : NestedKey) : Option V := (l.find? fun p => decide (p.1 = k)).map (·.2.2)
theorem NP.val {l : List (NestedKey × Addr × V)} {xs : List (NestedKey × Addr × Value)} (r : NP l xs) (k : NestedKey) : RelO (nAt l k) ((atKey xs k).map (·.2)) := by
  unfold NP at r
  induction r with
  | nil => exact True.intro
  | cons h t ih =>
    rename_i a b l1 l2
    by_cases e : a.1 = k
    · have e2 : b.1 = k := by rw [← h.1]; exact e
      simp only [nAt, atKey, List.find?_cons, e, e2, decide_true, Option.map_some]
      exact h.2.2
    · have e2 : ¬ b.1 = k := by rw [← h.1]; exact e
      simp only [nAt, atKey, List.find?_cons, e, e2, decide_false] at ih ⊢
      exact ih
def nPut (l : List (NestedKey × Addr × V)) (k : NestedKey) (b : Addr) (v : V) : List (NestedKey × Addr × V) :=
  if (nAt l k).isSome then l.map fun p => if p.1 = k then (p.1, p.2.1, v) else p else l ++ [(k, b, v)]
theorem NP.put {l : List (NestedKey × Addr × V)} {xs : List (NestedKey × Addr × Value)} (r : NP l xs) (k : NestedKey) (b : Addr) {v : V} {u : Value} (rv : RelV v u) : NP (nPut l k b v) (storedH xs k b u) := by
  have e := (r.val k).isSome_eq
  rw [Option.isSome_map] at e
  unfold nPut storedH
  rw [e]
  split
  · rename_i hh
    clear hh e
    unfold NP at r ⊢
    induction r with
    | nil => exact .nil
    | @cons p q ps qs h t ih =>
      refine .cons ?_ ih
      unfold putAt
      dsimp only
      by_cases z : p.1 = k
      · rw [if_pos z, if_pos (by rw [← h.1]; exact z)]
        exact ⟨h.1, h.2.1, rv⟩
      · rw [if_neg z, if_neg (by rw [← h.1]; exact z)]
        exact h
  · exact Paired.snoc r ⟨rfl, rfl, rv⟩
end
end Tm
set_option Elab.async false
set_option linter.all false
set_option maxRecDepth 100000
set_option maxHeartbeats 2000000
namespace Tm
open PySem L2
open Evl (Ex ex_rd ex_l ex_t)
theorem OV.dot {K : PySem.W.Frag} {Hk H : Hp} {ks xs : List MV} {v : V} {A : List Addr} : OV K Hk H (.dot ks xs) v A ↔ ∃ p l, v = .ref p ∧ A = [p] ∧ H p = some (.ext (nDict p l)) ∧ KN K Hk ks xs l := by
  unfold OV OF; rfl
def ndAt (ks xs : List MV) (k : NestedKey) : Option MV := ((ks.zip xs).find? fun p => decide (nkI p.1 = some k)).map (·.2)
def ndPut (ks xs : List MV) (y : MV) (k : NestedKey) (z : MV) : List MV × List MV :=
  if (ndAt ks xs k).isSome then (ks, (ks.zip xs).map fun p => if nkI p.1 = some k then z else p.2) else (ks ++ [y], xs ++ [z])
section
variable {K : PySem.W.Frag} {F Hk H : Hp} {bp : List (Nat × Addr)} {σ : L2.St} {ρ : Env}
theorem KN.len : ∀ {ks xs : List MV} {l : List (NestedKey × Addr × V)}, KN K Hk ks xs l → l.length = ks.length ∧ ks.length = xs.length
  | [], [], _, h => by cases h; exact ⟨rfl, rfl⟩
  | [], _ :: _, _, h => h.elim
  | _ :: _, [], _, h => h.elim
  | k :: ks, x :: xs, _, h => by
    obtain ⟨nk, a, v, r, rfl, h2, h3, h4, h5, h6⟩ := h
    have := KN.len h6
    simp [this.1, this.2]
theorem KN.at (k : NestedKey) : ∀ {ks xs : List MV} {l : List (NestedKey × Addr × V)}, KN K Hk ks xs l → (ndAt ks xs k = none → nAt l k = none) ∧ ∀ z, ndAt ks xs k = some z → ∃ v, nAt l k = some v ∧ RV K Hk z v
  | [], [], _, h => by cases h; exact ⟨(fun _ => rfl), (fun z e => nomatch e)⟩
  | [], _ :: _, _, h => h.elim
  | _ :: _, [], _, h => h.elim
  | j :: ks, x :: xs, _, h => by
    obtain ⟨nk, a, v, r, rfl, h2, h3, h4, h5, h6⟩ := h
    obtain ⟨i1, i2⟩ := KN.at k h6
    by_cases e : nk = k
    · subst e
      have e1 : ndAt (j :: ks) (x :: xs) nk = some x := by simp [ndAt, h2]
      have e2 : nAt ((nk, a, v) :: r) nk = some v := by simp [nAt]
      rw [e1, e2]
      exact ⟨(fun z => nomatch z), (fun z q => by cases q; exact ⟨v, rfl, h5⟩)⟩
    · have e1 : ndAt (j :: ks) (x :: xs) k = ndAt ks xs k := by
        have : ¬ some nk = some k := fun z => e (Option.some.inj z)
        simp [ndAt, h2, e]
      have e2 : nAt ((nk, a, v) :: r) k = nAt r k := by simp [nAt, e]
      rw [e1, e2]
      exact ⟨i1, i2⟩
theorem KN.snoc {y z : MV} {nk : NestedKey} {b : Addr} {v : V} (h2 : nkI y = some nk) (h3 : nk.depth ≤ 8) (h4 : RV K Hk y (.ref b)) (h5 : RV K Hk z v) : ∀ {ks xs : List MV} {l : List (NestedKey × Addr × V)}, KN K Hk ks xs l → KN K Hk (ks ++ [y]) (xs ++ [z]) (l ++ [(nk, b, v)])
  | [], [], _, h => by cases h; exact ⟨nk, b, v, [], rfl, h2, h3, h4, h5, rfl⟩
  | [], _ :: _, _, h => h.elim
  | _ :: _, [], _, h => h.elim
  | j :: ks, x :: xs, _, h => by
    obtain ⟨nk', a, v', r, rfl, g2, g3, g4, g5, g6⟩ := h
    exact ⟨nk', a, v', r ++ [(nk, b, v)], rfl, g2, g3, g4, g5, KN.snoc h2 h3 h4 h5 g6⟩
theorem KN.repl {z : MV} {k : NestedKey} {v : V} (h5 : RV K Hk z v) : ∀ {ks xs : List MV} {l : List (NestedKey × Addr × V)}, KN K Hk ks xs l → KN K Hk ks ((ks.zip xs).map fun p => if nkI p.1 = some k then z else p.2) (l.map fun p => if p.1 = k then (p.1, p.2.1, v) else p)
  | [], [], _, h => by cases h; rfl
  | [], _ :: _, _, h => h.elim
  | _ :: _, [], _, h => h.elim
  | j :: ks, x :: xs, _, h => by
    obtain ⟨nk, a, v', r, rfl, g2, g3, g4, g5, g6⟩ := h
    by_cases e : nk = k
    · subst e
      refine ⟨nk, a, v, _, ?_, g2, g3, g4, ?_, KN.repl h5 g6⟩
      · simp
      · simp [g2, h5]
    · have ne : ¬ some nk = some k := fun z => e (Option.some.inj z)
      refine ⟨nk, a, v', _, ?_, g2, g3, g4, ?_, KN.repl h5 g6⟩
      · simp [e]
      · simp only [g2, if_neg ne]
        exact g5
theorem KN.put {ks xs : List MV} {l : List (NestedKey × Addr × V)} (h : KN K Hk ks xs l) {y z : MV} {k : NestedKey} {b : Addr} {v : V} (h2 : nkI y = some k) (h3 : k.depth ≤ 8) (h4 : RV K Hk y (.ref b)) (h5 : RV K Hk z v) :
    KN K Hk (ndPut ks xs y k z).1 (ndPut ks xs y k z).2 (nPut l k b v) := by
  obtain ⟨i1, i2⟩ := KN.at k h
  unfold ndPut nPut
  cases e : ndAt ks xs k with
  | none =>
    rw [i1 e]
    exact KN.snoc h2 h3 h4 h5 h
  | some w =>
    obtain ⟨u, e1, _⟩ := i2 w e
    rw [e1]
    exact KN.repl h5 h
end
end Tm
set_option Elab.async false
set_option linter.all false
set_option maxRecDepth 100000
set_option maxHeartbeats 2000000
namespace Tm
open PySem L2
open Evl (Ex ex_rd ex_l ex_t)
theorem KN.refs {K : PySem.W.Frag} {Hk : Hp} : ∀ {ks xs : List MV} {l : List (NestedKey × Addr × V)}, KN K Hk ks xs l → RVs K Hk ks (l.map fun e => V.ref e.2.1)
  | [], [], _, h => by cases h; exact RVs.nil.mpr rfl
  | [], _ :: _, _, h => h.elim
  | _ :: _, [], _, h => h.elim
  | k :: ks, x :: xs, _, h => by
    obtain ⟨nk, a, v, r, rfl, h2, h3, h4, h5, h6⟩ := h
    exact RVs.cons.mpr ⟨_, _, rfl, h4, KN.refs h6⟩
end Tm
set_option Elab.async false
set_option linter.all false
set_option maxRecDepth 100000
set_option maxHeartbeats 2000000
namespace Tm
open PySem L2
open Evl (Ex ex_rd ex_l ex_t)
abbrev LV (s : Stmt) (x : Str) : Prop := (defScope s).names.lookup x = some NameKind.local
abbrev GV (q : Str) (s : Stmt) (x : Str) : Prop := ∀ (L a : Addr) (cd : Value), (PyProof.Rows.envOfC q (defScope s) L a cd).kindOf x = some NameKind.globalImplicit
abbrev cxO (P : Program) (w : World) (K : PySem.W.Frag) (mg : Str → Option Value) (base : Heap) (ns : List Str) (q : Str) (s : Stmt) (f : Addr) (cdv : Value) (A : Around) (outer : List PySem.Env) (st : Shared) (H : Hp) (E : XK) : Cx := cxOf (L2N.CX P w) P w K mg base ns q (defScope s) f cdv A outer st H E
abbrev TkO (c : Cx) (E : XK) : Prop := L2N.Takes c (fun cls d _ H => E cls d H)
abbrev PnO (P : Program) (w : World) (c : Cx) : Prop := PassesOwn (model P w) c.A c.env c.xe
end Tm
set_option Elab.async false
set_option linter.all false
set_option maxRecDepth 100000
set_option maxHeartbeats 2000000
namespace Tm
open PySem L2
open Evl (Ex ex_rd ex_l ex_t)
def flatV : MV → Bool
  | .str _ => true
  | .int _ => true
  | .bl _ => true
  | _ => false
end Tm
set_option Elab.async false
set_option linter.all false
set_option maxRecDepth 100000
set_option maxHeartbeats 2000000
namespace Tm
open PySem L2
open Evl (Ex ex_rd ex_l ex_t)
section
open PyProof.Rows PySem.Spec
end
section
variable {X : Cx} {c : Ct} {pos pos' p p2 apos cpos : Pos} {e e2 : Expr} {es : List Expr} {a b : ME} {m : MA} {x f C : Str} {i : Nat} {fl : List Str}
inductive FJ (X : Cx) (c : Ct) : List Expr → List ME → Prop where
  | nil : FJ X c [] []
  | cons {e : Expr} {a : ME} {es : List Expr} {ms : List ME} (h : PE X e (rdE c a)) (r : FJ X c es ms) : FJ X c (e :: es) (a :: ms)
end
end Tm
set_option Elab.async false
set_option linter.all false
set_option maxRecDepth 100000
set_option maxHeartbeats 2000000
namespace Tm
open PySem L2 PySem.Spec PyProof.Rows
open Evl (Ex ex_rd ex_l ex_t)
def valIn (K : PySem.W.Frag) : MV → Value → Bool
  | .tup xs, .ref a => (match K.lookup a with | some ⟨.type "tuple", _, .seq its _, _⟩ => flatsIs xs its.toList && decide (its.size ≤ 1000) | _ => false)
  | .fnc x, .ref a => (match PySem.W.nsIn K mainGlobals x with | some (some (.ref b)) => decide (a = b) | _ => false)
  | x, v => flatIs x v
def dctIn (K : PySem.W.Frag) : List (Str × MV) → List DictEntry → Bool
  | [], [] => true
  | p :: t, e :: r => e.key.isStr p.1 && valIn K p.2 e.val && dctIn K t r
  | _, _ => false
structure DCsu (K : PySem.W.Frag) (w : World) (mg : Str → Option Value) (x : Str) (tab : List (Str × MV)) : Prop where
  ex : ∃ a es n, mg x = some (.ref a) ∧ KDict K w a es n ∧ dctIn K tab es.toList = true
end Tm
set_option Elab.async false
set_option linter.all false
set_option maxRecDepth 100000
set_option maxHeartbeats 2000000
namespace Tm
open PySem L2
section
variable {i : Nat} {r : Option MV} {ρ : Env} {a b : ME} {m : MA} {f C : Str} {neg : Bool} {ms : List ME} {acc : Str} {is : List Nat}
@[simp] theorem fz_dow {ks : List Key} {xs : List MV} : fz (.dow ks xs) = some (.dct ks xs) := nr rfl
@[simp] theorem fz_dct {ks : List Key} {xs : List MV} : fz (.dct ks xs) = some (.dct ks xs) := nr rfl
@[simp] theorem held_dow {ks : List Key} {xs : List MV} : (MV.dow ks xs).held = true := nr rfl
@[simp] theorem held_dct {ks : List Key} {xs : List MV} : (MV.dct ks xs).held = true := nr rfl
end
section
variable {ks js : List Key} {xs ys ps us zs : List MV} {ρ : Env}
@[simp] theorem per_dct : (MV.dct ks xs).per = true := nr rfl
end
end Tm
set_option Elab.async false
set_option linter.all false
set_option maxRecDepth 100000
set_option maxHeartbeats 2000000
namespace Tm
open PySem PySem.Spec L2
open Evl (Ex ex_rd ex_l ex_t)
section
variable {c : Ct}
def okX (c : Ct) (F Hk : Hp) (bp : List (Nat × Addr)) (σ : St) (Q : VK) (ρ0 : Env) (vs : List Nat) : Res (List MV × Env) → Prop
  | .ok (ys, ρ') => okO c F Hk bp σ Q (.ok (.own ys, backM ρ0 ρ' vs))
  | .exc x ρ' => ρ'.length = ρ0.length ∧ Wish c F Hk bp σ x (backM ρ0 ρ' vs)
  | .stuck => False
theorem okX.mono {F Hk Hk' : Hp} {bp : List (Nat × Addr)} {σ : St} {Q : VK} {ρ0 : Env} {vs : List Nat} {r : Res (List MV × Env)} (x : Ex Hk Hk') (h : okX c F Hk bp σ Q ρ0 vs r) : okX c F Hk' bp σ Q ρ0 vs r := by
  cases r with
  | ok a => exact okO.mono (r := .ok (.own a.1, backM ρ0 a.2 vs)) x h
  | exc e ρ => exact ⟨h.1, Wish.mono x h.2⟩
  | stuck => exact h
end
end Tm
set_option Elab.async false
set_option linter.all false
set_option maxRecDepth 100000
set_option maxHeartbeats 2000000
namespace Tm
open PySem L2
open Evl (Ex ex_rd ex_l ex_t)
section
variable {K : PySem.W.Frag} {Hk H : Hp}
theorem OB.ov {x : MV} {v : V} {A : List Addr} (h : OB K Hk H x v A) : OV K Hk H x v A := by
  cases x with
  | obj C fs => unfold OB at h; unfold OV; exact h
  | own xs => unfold OB at h; unfold OV OF; exact h
  | _ => exact (show False by unfold OB at h; exact h).elim
theorem OV.ob {C : Str} {fs : List (Str × MV)} {v : V} {A : List Addr} (h : OV K Hk H (.obj C fs) v A) : OB K Hk H (.obj C fs) v A := by unfold OV at h; unfold OB; exact h
theorem OV.ols {os : List MV} {v : V} {A : List Addr} : OV K Hk H (.ols os) v A ↔ ∃ p vs B, v = .ref p ∧ A = p :: B ∧ H p = some (.lst vs) ∧ OBs K Hk H os vs B ∧ (p :: B).Nodup := by
  unfold OV; rfl
theorem OBs.len : ∀ {os : List MV} {vs : List V} {B : List Addr}, OBs K Hk H os vs B → vs.length = os.length
  | [], vs, B, ⟨e1, _⟩ => by rw [e1]; rfl
  | _ :: os, vs, B, ⟨v, r, C, D, e1, e2, o1, o2⟩ => by rw [e1, List.length_cons, List.length_cons, o2.len]
theorem OBs.focus : ∀ {os : List MV} {vs : List V} {B : List Addr} {j : Nat} {x : MV}, OBs K Hk H os vs B → os[j]? = some x → ∃ v A1 B1 B2, vs[j]? = some v ∧ B = B1 ++ A1 ++ B2 ∧ OB K Hk H x v A1 ∧
    ∀ (Hk' H' : Hp) (x' : MV) (A1' : List Addr), Ex Hk Hk' → (∀ a ∈ B1 ++ B2, ∀ o, H a = some o → H' a = some o) → OB K Hk' H' x' v A1' → OBs K Hk' H' (os.set j x') vs (B1 ++ A1' ++ B2)
  | [], _, _, _, _, _, h => by simp at h
  | y :: os, vs, B, 0, x, ⟨v, r, C, D, e1, e2, o1, o2⟩, h => by
    subst e1 e2
    simp at h
    subst h
    refine ⟨v, C, [], D, rfl, by simp, o1, fun Hk' H' x' A1' ex k o' => ?_⟩
    exact ⟨v, r, A1', D, rfl, by simp, o', OBs.move o2 ex fun a ha => k a (by simpa using ha)⟩
  | y :: os, vs, B, j + 1, x, ⟨v, r, C, D, e1, e2, o1, o2⟩, h => by
    subst e1 e2
    obtain ⟨w, A1, B1, B2, g1, g2, g3, g4⟩ := OBs.focus (j := j) (x := x) o2 (by simpa using h)
    refine ⟨w, A1, C ++ B1, B2, by simpa using g1, by rw [g2]; simp, g3, fun Hk' H' x' A1' ex k o' => ?_⟩
    exact ⟨v, r, C, B1 ++ A1' ++ B2, rfl, by simp, o1.move ex fun a ha => k a (by simp [ha]), g4 Hk' H' x' A1' ex (fun a ha => k a (by rcases List.mem_append.mp ha with h | h <;> simp [h])) o'⟩
end
def olAt (ρ : Env) (i : Nat) : Option (List MV) := match ρ[i]? with | some (some (.ols os)) => some os | _ => none
theorem ol_at {ρ : Env} {i : Nat} {os : List MV} (h : olAt ρ i = some os) : ρ[i]? = some (some (.ols os)) := by
  unfold olAt at h
  split at h
  · rename_i q e; cases h; exact e
  · cases h
end Tm
set_option Elab.async false
set_option linter.all false
set_option maxRecDepth 100000
set_option maxHeartbeats 2000000
namespace Tm
open PySem L2 PySem.Spec PyProof.Rows
open Evl (Ex ex_rd ex_l ex_t)
theorem rvs_two {K : PySem.W.Frag} {H : Hp} {x y : MV} {vs : List V} (h : RVs K H [x, y] vs) : ∃ v w, vs = [v, w] ∧ RV K H x v ∧ RV K H y w := by
  obtain ⟨v, r, rfl, r1, h⟩ := RVs.cons.mp h
  obtain ⟨w, r, rfl, r2, h⟩ := RVs.cons.mp h
  rw [RVs.nil.mp h]
  exact ⟨v, w, rfl, r1, r2⟩
theorem RVs.eraseIdx {K : PySem.W.Frag} {H : Hp} {xs : List MV} {vs : List V} (r : RVs K H xs vs) (k : Nat) : RVs K H (xs.eraseIdx k) (vs.eraseIdx k) := by
  rw [List.eraseIdx_eq_take_drop_succ, List.eraseIdx_eq_take_drop_succ]
  exact (r.take k).append (r.drop (k + 1))
def lmPopAt : List MV → List MV → Option (List MV × MV)
  | xs, [.int i] => if decide (-(2 ^ 63) ≤ i) && decide (i < 2 ^ 63) then (match seqIndex? i xs.length with
    | some k => (match xs[k]? with | some y => some (xs.eraseIdx k, y) | none => none)
    | none => none) else none
  | _, _ => none
theorem ls_popAt {K : PySem.W.Frag} : LmS K lmPopAt rPopAt := by
  intro xs ys zs z q vs us Hk H Q e ex hq r1 r2 k
  unfold lmPopAt at e
  split at e
  · split at e
    · rename_i i hb
      simp only [Bool.and_eq_true, decide_eq_true_eq] at hb
      split at e
      · rename_i j ej
        split at e
        · rename_i y hy
          cases e
          obtain ⟨u, rfl, ru⟩ := rvs1 r2
          obtain ⟨w, u1, u2⟩ := r1.get hy
          exact ⟨q, vs, i, j, w, rfl, by rw [RV.int.mp ru], hq, hb.1, hb.2, by rw [r1.length]; exact ej, u1, k _ _ (r1.eraseIdx j) u2⟩
        · cases e
      · cases e
    · cases e
  · cases e
def lmInsert : List MV → List MV → Option (List MV × MV)
  | xs, [.int i, y] => if decide (0 ≤ i) && decide (i < 2 ^ 63) && decide (xs.length < sizeLine) then some (xs.take i.toNat ++ [y] ++ xs.drop i.toNat, .non) else none
  | _, _ => none
theorem ls_insert {K : PySem.W.Frag} : LmS K lmInsert (fun x vs H Q => ∃ (l : Addr) (xs : List V) (i : Int) (y : V), x = .ref l ∧ vs = [.int i, y] ∧ H l = some (.lst xs) ∧ xs.length < sizeLine ∧ 0 ≤ i ∧ i < 2 ^ 63 ∧
    Q .non (upd H l (.lst (xs.take i.toNat ++ [y] ++ xs.drop i.toNat)))) := by
  intro xs ys zs z q vs us Hk H Q e ex hq r1 r2 k
  unfold lmInsert at e
  split at e
  · split at e
    · rename_i i y hb
      simp only [Bool.and_eq_true, decide_eq_true_eq] at hb
      cases e
      obtain ⟨u, w, rfl, ru, rw'⟩ := rvs_two r2
      refine ⟨q, vs, i, w, rfl, by rw [RV.int.mp ru], hq, by rw [r1.length]; exact hb.2, hb.1.1, hb.1.2, k _ _ (((r1.take _).append ?_).append (r1.drop _)) (RV.non.mpr rfl)⟩
      exact RVs.cons.mpr ⟨w, [], rfl, rw', RVs.nil.mpr rfl⟩
    · cases e
  · cases e
end Tm
set_option Elab.async false
set_option linter.all false
set_option maxRecDepth 100000
set_option maxHeartbeats 2000000
namespace Tm
open PySem PySem.Spec PyProof.Rows L2
open Evl (Ex ex_rd ex_l ex_t)
def flatO : Option MV → Bool
  | none => true
  | some x => flatM x
theorem flatM_per {x : MV} (h : flatM x = true) : x.per = true := by cases x <;> first | rfl | (simp [flatM] at h; done)
section
variable {K : PySem.W.Frag} {F Hk Hk' H H' : Hp} {bp : List (Nat × Addr)} {σ σ' : L2.St} {ρ ρ1 : Env}
theorem flat_at {ρ : Env} (f : ρ.all flatO = true) {i : Nat} {x : MV} (h : ρ[i]? = some (some x)) : flatM x = true := by
  have := List.all_eq_true.mp f _ (List.mem_of_getElem? h)
  exact this
theorem RS.flatten (S : RS K F Hk H bp σ ρ) (f : ρ.all flatO = true) {F2 Hk2 : Hp} (e1 : Ex Hk2 H) (e2 : Ex F2 H) (e3 : ∀ a o, F2 a = some o → Hk2 a = none) : RS K F2 Hk2 H bp σ ρ := by
  refine ⟨S.len, e1, e2, e3, ⟨fun _ => [], ⟨fun i x h => ?_, fun i a h => (by cases h), fun i h => (h rfl).elim, fun i j a _ h => (by cases h)⟩⟩, S.bor⟩
  have fx := flat_at f h
  obtain ⟨v, ev, rv⟩ := S.get h (flatM_per fx)
  exact ⟨v, ev, (rv.flat fx).ov⟩
end
structure XvK (K : PySem.W.Frag) (cv : Value) (x : Str) (b : Bool) : Prop where
  ex : ∃ D, PySem.W.nsIn K mainGlobals x = some (some (.ref D)) ∧ ExcC K D ∧ PySem.W.kitOne K (.ref D) cv = some b
end Tm
set_option Elab.async false
set_option linter.all false
set_option maxRecDepth 100000
set_option maxHeartbeats 2000000
namespace Tm
open PySem L2
open Evl (Ex ex_rd ex_l ex_t)
def isOwnAt (ρ : Env) (i : Nat) : Bool := match ρ[i]? with | some (some (.own _)) => true | _ => false
def ownOf (ρ : Env) (i : Nat) : MV := match ρ[i]? with | some (some (.own xs)) => .own xs | _ => .non
theorem ownAt {ρ : Env} {i : Nat} (h : isOwnAt ρ i = true) : ∃ xs, ρ[i]? = some (some (.own xs)) ∧ ownOf ρ i = .own xs := by
  unfold isOwnAt at h
  split at h
  · rename_i xs e
    exact ⟨xs, e, by unfold ownOf; rw [e]⟩
  · cases h
def wipeN (ρ : Env) (is : List Nat) : Env := is.foldl (fun r i => r.set i none) ρ
theorem wipeN_len : ∀ (is : List Nat) (ρ : Env), (wipeN ρ is).length = ρ.length
  | [], ρ => rfl
  | i :: is, ρ => by
    show (wipeN (ρ.set i none) is).length = _
    rw [wipeN_len is, List.length_set]
theorem wipeN_get : ∀ (is : List Nat) (ρ : Env) (k : Nat) (x : MV), (wipeN ρ is)[k]? = some (some x) → k ∉ is ∧ ρ[k]? = some (some x)
  | [], ρ, k, x, h => ⟨fun m => (nomatch m), h⟩
  | i :: is, ρ, k, x, h => by
    obtain ⟨h1, h2⟩ := wipeN_get is (ρ.set i none) k x h
    rcases set_get h2 with ⟨_, e⟩ | ⟨ne, e⟩
    · cases e
    · exact ⟨fun m => (List.mem_cons.mp m).elim ne h1, e⟩
section
variable {K : PySem.W.Frag} {F Hk H : Hp} {bp : List (Nat × Addr)} {σ : St} {ρ : Env}
theorem some_inj {α : Type} : ∀ {l m : List α}, l.map some = m.map some → l = m
  | [], [], _ => rfl
  | [], _ :: _, h => by cases h
  | _ :: _, [], h => by cases h
  | a :: l, b :: m, h => by
    rw [List.map_cons, List.map_cons] at h
    injection h with h1 h2
    cases h1
    rw [some_inj h2]
theorem gather_obs {ow : Nat → List Addr} (s : SL K F Hk H ow σ ρ) {H' : Hp} (hH : ∀ a o, H a = some o → H' a = some o) : ∀ (is : List Nat), is.all (isOwnAt ρ) = true → ∃ vs : List V, is.map (fun i => (σ[i]?).join) = vs.map some ∧ OBs K Hk H' (is.map (ownOf ρ)) vs (is.flatMap ow)
  | [], _ => ⟨[], rfl, rfl, rfl⟩
  | i :: is, h => by
    rw [List.all_cons, Bool.and_eq_true] at h
    obtain ⟨vs, e1, o1⟩ := gather_obs s hH is h.2
    obtain ⟨xs, e2, e3⟩ := ownAt h.1
    obtain ⟨v, ev, o⟩ := s.s i _ e2
    obtain ⟨p, us, g1, g2, g3, g4⟩ := OV.own.mp o
    refine ⟨v :: vs, by rw [List.map_cons, List.map_cons, e1, ev]; rfl, v, vs, ow i, is.flatMap ow, rfl, by rw [List.flatMap_cons], ?_, o1⟩
    rw [e3]
    unfold OB
    exact ⟨p, us, g1, g2, hH _ _ g3, g4⟩
theorem gather_nodup {ow : Nat → List Addr} (s : SL K F Hk H ow σ ρ) : ∀ (is : List Nat), is.all (isOwnAt ρ) = true → is.Nodup → (is.flatMap ow).Nodup
  | [], _, _ => List.nodup_nil
  | i :: is, h, nd => by
    rw [List.all_cons, Bool.and_eq_true] at h
    obtain ⟨n1, n2⟩ := List.nodup_cons.mp nd
    obtain ⟨xs, e2, e3⟩ := ownAt h.1
    obtain ⟨v, ev, o⟩ := s.s i _ e2
    obtain ⟨p, us, g1, g2, g3, g4⟩ := OV.own.mp o
    rw [List.flatMap_cons]
    refine List.nodup_append.mpr ⟨by rw [g2]; simp, gather_nodup s is h.2 n2, fun a ma b mb e => ?_⟩
    subst e
    obtain ⟨j, hj, mj⟩ := List.mem_flatMap.mp mb
    exact s.d i j a (fun z => n1 (by rw [z]; exact hj)) ma mj
theorem RS.gather (S : RS K F Hk H bp σ ρ) {is : List Nat} (ha : is.all (isOwnAt ρ) = true) (nd : is.Nodup) {vs : List V} (hv : is.map (fun i => (σ[i]?).join) = vs.map some) {q : Addr} (hq : H q = none) :
    RS K F Hk (upd H q (.lst vs)) bp (σ ++ [some (.ref q)]) (wipeN ρ is ++ [some (.ols (is.map (ownOf ρ)))]) := by
  obtain ⟨ow, s⟩ := S.ow
  have S' := S.more (o := .lst vs) hq
  have up : ∀ a o, H a = some o → upd H q (.lst vs) a = some o := fun a o h => by rw [upd_ne (ne_of_none h hq)]; exact h
  obtain ⟨vs2, hv2, ob⟩ := gather_obs s up is ha
  have ee : vs2 = vs := by
    have : vs2.map some = vs.map some := by rw [← hv2, hv]
    exact some_inj this
  subst ee
  have fp : F q = none := by
    cases e : F q with
    | none => rfl
    | some o => have := S.fr q o e; rw [hq] at this; cases this
  have nq : ∀ i, q ∉ ow i := fun i m => by obtain ⟨_, _, o, e⟩ := s.f i q m; rw [hq] at e; cases e
  have wl := wipeN_len is ρ
  refine ⟨by simp [S.len, wl], S'.ex, S'.fr, S'.frk, ⟨fun k => if k = ρ.length then q :: is.flatMap ow else if k ∈ is then [] else ow k, ?_⟩, S.bor_app _⟩
  have own : ∀ k a, a ∈ (if k = ρ.length then q :: is.flatMap ow else if k ∈ is then [] else ow k) → (k = ρ.length ∧ (a = q ∨ ∃ j ∈ is, a ∈ ow j)) ∨ (k ≠ ρ.length ∧ k ∉ is ∧ a ∈ ow k) := fun k a h => by
    by_cases e : k = ρ.length
    · rw [if_pos e] at h
      rcases List.mem_cons.mp h with h | h
      · exact .inl ⟨e, .inl h⟩
      · obtain ⟨j, h1, h2⟩ := List.mem_flatMap.mp h
        exact .inl ⟨e, .inr ⟨j, h1, h2⟩⟩
    · rw [if_neg e] at h
      by_cases e2 : k ∈ is
      · rw [if_pos e2] at h; cases h
      · rw [if_neg e2] at h; exact .inr ⟨e, e2, h⟩
  refine ⟨fun k x h => ?_, fun k a h => ?_, fun k h => ?_, fun k l a hkl h1 h2 => ?_⟩
  · rcases app_get h with ⟨e1, e2⟩ | ⟨lt, e2⟩
    · cases e2
      rw [wl] at e1
      subst e1
      refine ⟨.ref q, by rw [← S.len]; simp, ?_⟩
      rw [if_pos rfl]
      exact OV.ols.mpr ⟨q, vs2, is.flatMap ow, rfl, rfl, upd_same, ob, List.nodup_cons.mpr ⟨fun m => by obtain ⟨j, _, h2⟩ := List.mem_flatMap.mp m; exact nq j h2, gather_nodup s is ha nd⟩⟩
    · rw [wl] at lt
      obtain ⟨g1, g2⟩ := wipeN_get is ρ k x e2
      obtain ⟨v, ev, o⟩ := s.s k x g2
      refine ⟨v, by rw [List.getElem?_append_left (by rw [S.len]; exact lt)]; exact ev, ?_⟩
      rw [if_neg (by omega), if_neg g1]
      exact o.move (Ex.refl _) fun a _ u hu => up a u hu
  · rcases own k a h with ⟨_, rfl | ⟨j, _, m⟩⟩ | ⟨_, _, m⟩
    · exact ⟨S.ex.back hq, fp, _, upd_same⟩
    · obtain ⟨g1, g2, o, g3⟩ := s.f j a m
      exact ⟨g1, g2, o, up a o g3⟩
    · obtain ⟨g1, g2, o, g3⟩ := s.f k a m
      exact ⟨g1, g2, o, up a o g3⟩
  · rw [List.length_append, wl]
    by_cases e : k = ρ.length
    · rw [e]; simp
    · rw [if_neg e] at h
      by_cases e2 : k ∈ is
      · rw [if_pos e2] at h; exact (h rfl).elim
      · rw [if_neg e2] at h
        have := s.w k h
        omega
  · rcases own k a h1 with ⟨e1, o1⟩ | ⟨e1, i1, m1⟩
    · rcases own l a h2 with ⟨e3, _⟩ | ⟨e3, i3, m3⟩
      · exact hkl (e1.trans e3.symm)
      · rcases o1 with rfl | ⟨j, hj, m⟩
        · exact nq l m3
        · exact s.d j l a (fun z => i3 (by rw [← z]; exact hj)) m m3
    · rcases own l a h2 with ⟨e3, o3⟩ | ⟨e3, i3, m3⟩
      · rcases o3 with rfl | ⟨j, hj, m⟩
        · exact nq k m1
        · exact s.d j k a (fun z => i1 (by rw [← z]; exact hj)) m m1
      · exact s.d k l a hkl m1 m3
theorem RS.getOl (S : RS K F Hk H bp σ ρ) {i : Nat} {os : List MV} (h : ρ[i]? = some (some (.ols os))) : ∃ p vs, σ[i]? = some (some (.ref p)) ∧ H p = some (.lst vs) ∧ vs.length = os.length ∧
    ∀ j xs, os[j]? = some (.own xs) → ∃ q ws, vs[j]? = some (.ref q) ∧ H q = some (.lst ws) ∧ RVs K Hk xs ws ∧ ∀ ys us, RVs K Hk ys us → RS K F Hk (upd H q (.lst us)) bp σ (ρ.set i (some (.ols (os.set j (.own ys))))) := by
  obtain ⟨ow, s⟩ := S.ow
  obtain ⟨v, ev, o⟩ := s.s i _ h
  obtain ⟨p, vs, B, e1, e2, e3, e4, e5⟩ := OV.ols.mp o
  refine ⟨p, vs, by rw [ev, e1], e3, e4.len, fun j xs hj => ?_⟩
  obtain ⟨u, A1, B1, B2, g1, g2, g3, g4⟩ := e4.focus hj
  unfold OB at g3
  obtain ⟨q, ws, k1, k2, k3, k4⟩ := g3
  refine ⟨q, ws, by rw [g1, k1], k3, k4, fun ys us r => ?_⟩
  have mq : q ∈ ow i := by rw [e2, g2, k2]; simp
  obtain ⟨f1, f2, _⟩ := s.f i q mq
  have nd : (p :: (B1 ++ [q] ++ B2)).Nodup := by rw [g2, k2] at e5; exact e5
  have pq : p ≠ q := fun z => by
    have := (List.nodup_cons.mp nd).1
    rw [z] at this
    exact this (by simp)
  have nB : ∀ a ∈ B1 ++ B2, a ≠ q := fun a m z => by
    have n2 := (List.nodup_cons.mp nd).2
    have n3 := List.nodup_append.mp n2
    have n4 := List.nodup_append.mp n3.1
    subst z
    rcases List.mem_append.mp m with m | m
    · exact n4.2.2 a m a (by simp) rfl
    · exact n3.2.2 a (by simp) a m rfl
  refine ⟨by simp [S.len], S.ex.mut f1, S.fr.mut f2, S.frk, ⟨ow, ?_⟩, S.bor⟩
  refine ⟨fun l y hl => ?_, fun l a hl => ?_, fun l hl => by rw [List.length_set]; exact s.w l hl, s.d⟩
  · rcases set_get hl with ⟨rfl, e⟩ | ⟨ne, e⟩
    · cases e
      refine ⟨v, ev, OV.ols.mpr ⟨p, vs, B, e1, e2, by rw [upd_ne pq]; exact e3, ?_, e5⟩⟩
      have := g4 Hk (upd H q (.lst us)) (.own ys) [q] (Ex.refl _) (fun a m u hu => by rw [upd_ne (nB a m)]; exact hu) (by unfold OB; exact ⟨q, us, k1, rfl, upd_same, r⟩)
      rw [g2, k2]
      exact this
    · obtain ⟨u, u1, u2⟩ := s.s l y e
      exact ⟨u, u1, u2.move (Ex.refl _) fun a ha o ho => by rw [upd_ne (fun z => s.d l i a ne ha (by rw [z]; exact mq))]; exact ho⟩
  · obtain ⟨g1, g2, o, g3⟩ := s.f l a hl
    by_cases e : a = q
    · subst e; exact ⟨g1, g2, _, upd_same⟩
    · exact ⟨g1, g2, o, by rw [upd_ne e]; exact g3⟩
def allOwn : List MV → Option (List MV)
  | [] => some []
  | .own xs :: r => (match allOwn r with | some ys => some (.lst xs :: ys) | none => none)
  | _ => none
theorem known_obs {Hk' : Hp} (x : Ex Hk Hk') : ∀ {os ys : List MV} {vs : List V} {B : List Addr}, OBs K Hk H os vs B → allOwn os = some ys → (∀ a ∈ B, Hk' a = H a) → RVs K Hk' ys vs
  | [], ys, vs, B, ⟨e1, _⟩, h, _ => by cases h; rw [e1]; exact RVs.nil.mpr rfl
  | y :: os, ys, vs, B, ⟨v, r, C, D, e1, e2, o1, o2⟩, h, k => by
    cases y with
    | own xs =>
      unfold allOwn at h
      cases e : allOwn os with
      | none => rw [e] at h; cases h
      | some zs =>
        rw [e] at h
        cases h
        unfold OB at o1
        obtain ⟨p, us, g1, g2, g3, g4⟩ := o1
        rw [e1]
        refine RVs.cons.mpr ⟨v, r, rfl, ?_, known_obs x o2 e fun a m => k a (by rw [e2]; exact List.mem_append_right _ m)⟩
        rw [g1]
        exact RV.lst.mpr ⟨p, us, rfl, by rw [k p (by rw [e2, g2]; simp)]; exact g3, g4.mono x⟩
    | _ => unfold allOwn at h; cases h
theorem RS.freezeL (S : RS K F Hk H bp σ ρ) {i : Nat} {os ys : List MV} (h : ρ[i]? = some (some (.ols os))) (hy : allOwn os = some ys) :
    ∃ p Hk', σ[i]? = some (some (.ref p)) ∧ Ex Hk Hk' ∧ RV K Hk' (.lst ys) (.ref p) ∧ RS K F Hk' H bp σ (ρ.set i (some (.lst ys))) := by
  obtain ⟨ow, s⟩ := S.ow
  obtain ⟨v, ev, o⟩ := s.s i _ h
  obtain ⟨p, vs, B, e1, e2, e3, e4, e5⟩ := OV.ols.mp o
  haveI : ∀ a, Decidable (a ∈ ow i) := fun a => Classical.propDecidable _
  obtain ⟨Hk', k1, k2⟩ : ∃ Hk' : Hp, (∀ a ∈ ow i, Hk' a = H a) ∧ (∀ a, a ∉ ow i → Hk' a = Hk a) := ⟨fun a => if a ∈ ow i then H a else Hk a, fun a m => if_pos m, fun a m => if_neg m⟩
  have ex : Ex Hk Hk' := fun a u hu => by
    rw [k2 a (fun m => by have := (s.f i a m).1; rw [hu] at this; cases this)]; exact hu
  have ex2 : Ex Hk' H := fun a u hu => by
    by_cases m : a ∈ ow i
    · rw [k1 a m] at hu; exact hu
    · rw [k2 a m] at hu; exact S.ex a u hu
  have rv : RV K Hk' (.lst ys) (.ref p) := RV.lst.mpr ⟨p, vs, rfl, by rw [k1 p (by rw [e2]; simp)]; exact e3, known_obs ex e4 hy fun a m => k1 a (by rw [e2]; exact List.mem_cons_of_mem _ m)⟩
  refine ⟨p, Hk', by rw [ev, e1], ex, rv, by simp [S.len], ex2, S.fr, fun a u ha => ?_, ⟨put ow i [], ?_⟩, S.bor⟩
  · rw [k2 a (fun m => by have := (s.f i a m).2.1; rw [ha] at this; cases this)]; exact S.frk a u ha
  · refine ⟨fun j y hj => ?_, fun j a hj => ?_, fun j hj => ?_, fun j k a hjk hj => ?_⟩
    · rcases set_get hj with ⟨rfl, e⟩ | ⟨ne, e⟩
      · cases e
        exact ⟨v, ev, by rw [put_same, e1]; exact rv.ov⟩
      · obtain ⟨u, u1, u2⟩ := s.s j y e
        exact ⟨u, u1, by rw [put_ne ne]; exact u2.move ex fun _ _ _ z => z⟩
    · by_cases e : j = i
      · rw [e, put_same] at hj; cases hj
      · rw [put_ne e] at hj
        obtain ⟨g1, g2⟩ := s.f j a hj
        refine ⟨?_, g2⟩
        rw [k2 a (fun m => s.d j i a e hj m)]; exact g1
    · by_cases e : j = i
      · rw [e, put_same] at hj; exact (hj rfl).elim
      · rw [put_ne e] at hj; rw [List.length_set]; exact s.w j hj
    · by_cases e : j = i
      · rw [e, put_same] at hj; cases hj
      · rw [put_ne e] at hj
        by_cases e2 : k = i
        · rw [e2, put_same]; simp
        · rw [put_ne e2]; exact s.d j k a hjk hj
end
section
variable {X : Cx} {c : Ct} {i k : Nat} {x y : Str} {p p2 p3 p4 pos pos' apos : Pos} {a b : ME} {e ee : Expr}
def mCpV (i : Nat) : ME := fun ρ => match ρ[i]? with | some (some (.own xs)) => .ok (.own xs, ρ) | _ => .stuck
theorem mo_cpV (hN : X.N[i]? = some x) (hv : Vis X.env.scope x) (hm : X.mg "list" = none) (hK : c.K = X.K := by rfl) (hg : Gl X "list" := by rfl) (he : starEach [.Name x p2] X.env = (false, eval (.Name x p2) X.env) :: starEach [] X.env := by rfl) (hpl : (backTo pos (starEach [] X.env)).any (·.1) = false := by rfl)
    (hd : (x == ("__debug__" : Str)) = false := by decide) (hcd : (x == ("__classdict__" : Str)) = false := by decide) : PE X (.Call (.Name "list" p) [.Name x p2] [] pos) (rdO c (mCpV i)) :=
  PEw (pe_callTy (r := rListM X.K) call_list_of hg hm (by decide +kernel) (pa_cons (pe_var hN hv hd hcd) pa_nil he) (he := he) (hpl := hpl)) fun σ H Q h => by
    obtain ⟨F, Hk, bp, ρ, S, h⟩ := h
    unfold mCpV at h
    split at h
    · rename_i xs hx
      obtain ⟨q, vs, e1, e2, e3, e4, e5⟩ := S.1.getOwn hx
      exact ⟨_, e1, q, vs, rfl, .inl (by rw [← hK]; exact SqL.of e2), fun l hl => h _ _ _ (Ex.refl _) (S.1.pushOwn hl e3)⟩
    · exact h.elim
def mOlD (is : List Nat) : ME := fun ρ => if is.all (isOwnAt ρ) && decide is.Nodup then .ok (.ols (is.map (ownOf ρ)), wipeN ρ is) else .stuck
theorem mo_old4 {i1 i2 i3 i4 : Nat} {x1 x2 x3 x4 : Str} {q1 q2 q3 q4 : Pos} (n1 : X.N[i1]? = some x1) (v1 : Vis X.env.scope x1) (n2 : X.N[i2]? = some x2) (v2 : Vis X.env.scope x2) (n3 : X.N[i3]? = some x3) (v3 : Vis X.env.scope x3) (n4 : X.N[i4]? = some x4) (v4 : Vis X.env.scope x4)
    (d1 : (x1 == ("__debug__" : Str)) = false := by decide) (c1 : (x1 == ("__classdict__" : Str)) = false := by decide) (d2 : (x2 == ("__debug__" : Str)) = false := by decide) (c2 : (x2 == ("__classdict__" : Str)) = false := by decide)
    (d3 : (x3 == ("__debug__" : Str)) = false := by decide) (c3 : (x3 == ("__classdict__" : Str)) = false := by decide) (d4 : (x4 == ("__debug__" : Str)) = false := by decide) (c4 : (x4 == ("__classdict__" : Str)) = false := by decide)
    (h1 : starEach [.Name x1 q1, .Name x2 q2, .Name x3 q3, .Name x4 q4] X.env = (false, eval (.Name x1 q1) X.env) :: starEach [.Name x2 q2, .Name x3 q3, .Name x4 q4] X.env := by rfl) (h2 : starEach [.Name x2 q2, .Name x3 q3, .Name x4 q4] X.env = (false, eval (.Name x2 q2) X.env) :: starEach [.Name x3 q3, .Name x4 q4] X.env := by rfl)
    (h3 : starEach [.Name x3 q3, .Name x4 q4] X.env = (false, eval (.Name x3 q3) X.env) :: starEach [.Name x4 q4] X.env := by rfl) (h4 : starEach [.Name x4 q4] X.env = (false, eval (.Name x4 q4) X.env) :: starEach [] X.env := by rfl) :
    PE X (.List [.Name x1 q1, .Name x2 q2, .Name x3 q3, .Name x4 q4] pos) (rdO c (mOlD [i1, i2, i3, i4])) :=
  PEw (pe_lst (pa_cons (pe_var n1 v1 d1 c1) (pa_cons (pe_var n2 v2 d2 c2) (pa_cons (pe_var n3 v3 d3 c3) (pa_cons (pe_var n4 v4 d4 c4) pa_nil h4) h3) h2) h1)) fun σ H Q h => by
    obtain ⟨F, Hk, bp, ρ, S, h⟩ := h
    unfold mOlD at h
    split at h
    · rename_i hc
      rw [Bool.and_eq_true] at hc
      have nd := of_decide_eq_true hc.2
      have get : ∀ i ∈ [i1, i2, i3, i4], ∃ v, σ[i]? = some (some v) := fun i hi => by
        obtain ⟨xs, e, _⟩ := ownAt (List.all_eq_true.mp hc.1 i hi)
        obtain ⟨q, vs, e1, _⟩ := S.1.getOwn e
        exact ⟨_, e1⟩
      obtain ⟨w1, e1⟩ := get i1 (by simp)
      obtain ⟨w2, e2⟩ := get i2 (by simp)
      obtain ⟨w3, e3⟩ := get i3 (by simp)
      obtain ⟨w4, e4⟩ := get i4 (by simp)
      refine ⟨w1, e1, w2, e2, w3, e3, w4, e4, by rw [sizeLine_eq]; simp, fun q hq => ?_⟩
      exact h _ _ _ (Ex.refl _) (S.1.gather hc.1 nd (vs := [w1, w2, w3, w4]) (by simp [e1, e2, e3, e4]) hq)
    · exact h.elim
def mVarL (i : Nat) : ME := fun ρ => match ρ[i]? with
  | some (some (.ols os)) => (match allOwn os with | some ys => .ok (.lst ys, ρ.set i (some (.lst ys))) | none => .stuck)
  | _ => .stuck
theorem me_varL (hN : X.N[i]? = some x) (hv : Vis X.env.scope x) (hd : (x == ("__debug__" : Str)) = false := by decide) (hcd : (x == ("__classdict__" : Str)) = false := by decide) : PE X (.Name x pos) (rdE c (mVarL i)) :=
  PEw (pe_var hN hv hd hcd) fun σ H Q h => by
    obtain ⟨F, Hk, bp, ρ, ⟨S, _⟩, h⟩ := h
    unfold mVarL at h
    split at h
    · rename_i os e
      cases ey : allOwn os with
      | none => rw [ey] at h; exact h.elim
      | some ys =>
        rw [ey] at h
        obtain ⟨p, Hk', e1, ex, r, S'⟩ := S.freezeL e ey
        exact ⟨_, e1, h _ _ _ ex S' r⟩
    · exact h.elim
def olAtI (ρ : Env) (i k : Nat) (z : MV) : Option (List MV × Nat × List MV × Int) := match olAt ρ i, z, ρ[k]? with
  | some os, .int a, some (some (.int b)) => (match ixN os.length a with
    | some j => (match os[j]? with | some (.own xs) => some (os, j, xs, b) | _ => none)
    | none => none)
  | _, _, _ => none
theorem olAtI_some {ρ : Env} {i k : Nat} {z : MV} {os xs : List MV} {j : Nat} {b : Int} (h : olAtI ρ i k z = some (os, j, xs, b)) : ρ[i]? = some (some (.ols os)) ∧ ρ[k]? = some (some (.int b)) ∧ os[j]? = some (.own xs) ∧ ∃ a, z = .int a ∧ ixN os.length a = some j := by
  unfold olAtI at h
  split at h
  · rename_i os' a b' h1 h2
    split at h
    · rename_i j' hj
      split at h
      · rename_i xs' hx
        cases h
        exact ⟨ol_at h1, h2, hx, a, rfl, hj⟩
      · cases h
    · cases h
  · cases h
def mIxL (i : Nat) (b : ME) (k : Nat) : ME := fun ρ => if has ρ i then (b ρ).bind fun z ρ1 => (match olAtI ρ1 i k z with
  | some (_, _, xs, n) => (match atI xs n with | some u => .ok (u, ρ1) | none => .stuck)
  | none => .stuck) else .stuck
theorem me_ixL (hN : X.N[i]? = some x) (hv : Vis X.env.scope x) (hb : PE X e (rdE c b)) (hM : X.N[k]? = some y) (hw : Vis X.env.scope y) (hK : c.K = X.K := by rfl) (hs : PlainIx e := by exact fun _ _ => rfl) (hs2 : PlainIx (.Name y p2) := by exact fun _ _ => rfl)
    (hd : (x == ("__debug__" : Str)) = false := by decide) (hcd : (x == ("__classdict__" : Str)) = false := by decide) (hd2 : (y == ("__debug__" : Str)) = false := by decide) (hcd2 : (y == ("__classdict__" : Str)) = false := by decide) :
    PE X (.Subscript (.Subscript (.Name x p) e pos') (.Name y p2) pos) (rdE c (mIxL i b k)) := PEw (pe_ix ix_seq (pe_ix ix_seq (pe_var hN hv hd hcd) hb hs) (pe_var hM hw hd2 hcd2) hs2) fun σ H Q h => by
  rw [← hK]
  obtain ⟨F, Hk, bp, ρ, S, h⟩ := h
  unfold mIxL at h
  split at h
  · rename_i hh
    obtain ⟨v, ev⟩ := has_rs S hh
    refine ⟨v, ev, ?_⟩
    refine rdw (bE postE S h) fun w H1 ⟨Hk1, z, ρ1, x1, S1, r1, h1⟩ => ?_
    cases e1 : olAtI ρ1 i k z with
    | none => rw [e1] at h1; exact h1.elim
    | some q =>
      obtain ⟨os, j, xs, n⟩ := q
      rw [e1] at h1
      simp only at h1
      obtain ⟨g1, g2, g3, a, rfl, g4⟩ := olAtI_some e1
      cases e2 : atI xs n with
      | none => rw [e2] at h1; exact h1.elim
      | some u =>
        rw [e2] at h1
        obtain ⟨p, vs, k1, k2, k3, k4⟩ := S1.1.getOl g1
        rw [ev] at k1
        cases k1
        obtain ⟨q, ws, m1, m2, m3, _⟩ := k4 j xs g3
        obtain ⟨t, et, rt⟩ := atI_rv m3 e2
        obtain ⟨y', ey, ry⟩ := S1.1.get g2 rfl
        refine .inl ⟨p, vs, _, .ref q, rfl, RV.int.mp r1, SqL.of k2, ?_, y', ey, .inl ⟨q, ws, _, t, rfl, RV.int.mp ry, SqL.of m2, et, h1 _ _ t (Ex.refl _) S1.1 rt⟩⟩
        unfold atI
        rw [k3, g4]
        exact m1
  · exact h.elim
def mSetL (i : Nat) (a b : ME) (k : Nat) : MS := fun ρ => (a ρ).bind fun z ρ1 => if has ρ1 i then (b ρ1).bind fun w ρ2 => (match olAtI ρ2 i k w with
  | some (os, j, xs, n) => (match ixN xs.length n with | some m => .ok (.nx, ρ2.set i (some (.ols (os.set j (.own (xs.set m z)))))) | none => .stuck)
  | none => .stuck) else .stuck
theorem ms_setL (hN : X.N[i]? = some x) (hv : Vis X.env.scope x) (he : PE X e (rdE c a)) (hb : PE X ee (rdE c b)) (hM : X.N[k]? = some y) (hw : Vis X.env.scope y) (hK : c.K = X.K := by rfl) (hs0 : PlainIx ee := by exact fun _ _ => rfl)
    (hs : swapsWithSole [.Subscript (.Subscript (.Name x p) ee pos') (.Name y p2) apos] e pos.line X.env = pure false := by rfl) (hw2 : swappedStores [.Subscript (.Subscript (.Name x p) ee pos') (.Name y p2) apos] e X.env = pure none := by rfl)
    (h1 : (assignEach [.Subscript (.Subscript (.Name x p) ee pos') (.Name y p2) apos] X.env).map (·.2) = [assign (.Subscript (.Subscript (.Name x p) ee pos') (.Name y p2) apos) X.env] := by rfl)
    (ha : ∀ v, assign (.Subscript (.Subscript (.Name x p) ee pos') (.Name y p2) apos) X.env v = (do
      let ov ← holding [v] (eval (.Subscript (.Name x p) ee pos') X.env)
      let iv ← holding [v, ov] (eval (.Name y p2) X.env)
      standAt apos
      holding [v, ov, iv] (setItem ov iv v)
      release [v, ov, iv] []) := by intro _; rfl)
    (hd : (x == ("__debug__" : Str)) = false := by decide) (hcd : (x == ("__classdict__" : Str)) = false := by decide) (hd2 : (y == ("__debug__" : Str)) = false := by decide) (hcd2 : (y == ("__classdict__" : Str)) = false := by decide) :
    PS X (.Assign [.Subscript (.Subscript (.Name x p) ee pos') (.Name y p2) apos] e pos) (rdS c (mSetL i a b k)) :=
  PSw (ps_asg he (pg_sub (pe_ix ix_seq (pe_var hN hv hd hcd) hb hs0) (pe_var hM hw hd2 hcd2) set_list ha) hs hw2 h1) fun D σ H h => by
    rw [← hK]
    obtain ⟨F, Hk, bp, ρ, S, h⟩ := h
    refine rdw (bE (postS (σ := σ)) S h) fun v H1 ⟨Hk1, z, ρ1, x1, S1, r1, h1⟩ => ?_
    split at h1
    · rename_i hh
      obtain ⟨w, ew⟩ := has_rs S1 hh
      refine ⟨w, ew, ?_⟩
      refine rdw (bE (postS (σ := σ)) S1 h1) fun y' H2 ⟨Hk2, y2, ρ2, x2, S2, r2, h2⟩ => ?_
      cases e1 : olAtI ρ2 i k y2 with
      | none => rw [e1] at h2; exact h2.elim
      | some q =>
        obtain ⟨os, j, xs, n⟩ := q
        rw [e1] at h2
        simp only at h2
        obtain ⟨g1, g2, g3, a', rfl, g4⟩ := olAtI_some e1
        cases e2 : ixN xs.length n with
        | none => rw [e2] at h2; exact h2.elim
        | some m =>
          rw [e2] at h2
          obtain ⟨p, vs, k1, k2, k3, k4⟩ := S2.1.getOl g1
          rw [ew] at k1
          cases k1
          obtain ⟨q, ws, m1, m2, m3, m4⟩ := k4 j xs g3
          obtain ⟨y3, ey, ry⟩ := S2.1.get g2 rfl
          refine .inl ⟨p, vs, _, .ref q, rfl, RV.int.mp r2, SqL.of k2, ?_, y3, ey, q, ws, n, m, rfl, RV.int.mp ry, m2, by rw [m3.length]; exact e2, h2 _ _ _ (Ex.refl _) (m4 _ _ (m3.set m (RV.mono x2 _ _ r1)))⟩
          unfold atI
          rw [k3, g4]
          exact m1
    · exact h1.elim
end
section
variable {i k : Nat} {r : Option MV} {ρ : Env} {a b : ME} {is : List Nat}
@[simp] theorem mCpV_ap : mCpV i (r :: ρ) = match (r :: ρ)[i]? with | some (some (.own xs)) => .ok (.own xs, r :: ρ) | _ => .stuck := nr rfl
@[simp] theorem mOlD_ap : mOlD is (r :: ρ) = if is.all (isOwnAt (r :: ρ)) && decide is.Nodup then .ok (.ols (is.map (ownOf (r :: ρ))), wipeN (r :: ρ) is) else .stuck := nr rfl
@[simp] theorem mVarL_ap : mVarL i (r :: ρ) = match (r :: ρ)[i]? with
  | some (some (.ols os)) => (match allOwn os with | some ys => .ok (.lst ys, (r :: ρ).set i (some (.lst ys))) | none => .stuck)
  | _ => .stuck := nr rfl
@[simp] theorem mIxL_ap : mIxL i b k (r :: ρ) = if has (r :: ρ) i then (b (r :: ρ)).bind fun z ρ1 => (match olAtI ρ1 i k z with
  | some (_, _, xs, n) => (match atI xs n with | some u => .ok (u, ρ1) | none => .stuck)
  | none => .stuck) else .stuck := nr rfl
@[simp] theorem mSetL_ap : mSetL i a b k (r :: ρ) = (a (r :: ρ)).bind fun z ρ1 => if has ρ1 i then (b ρ1).bind fun w ρ2 => (match olAtI ρ2 i k w with
  | some (os, j, xs, n) => (match ixN xs.length n with | some m => .ok (.nx, ρ2.set i (some (.ols (os.set j (.own (xs.set m z)))))) | none => .stuck)
  | none => .stuck) else .stuck := nr rfl
@[simp] theorem held_ols {os : List MV} : (MV.ols os).held = true := nr rfl
end
end Tm
set_option Elab.async false
set_option linter.all false
set_option maxRecDepth 100000
set_option maxHeartbeats 4000000
namespace Tm
open PySem L2
def fnNames : List Str := ["ahead_of_last", "all_or_none", "fill", "five_on", "half_up", "high_half", "lacking", "last_figure", "low_half", "lowest_two", "nine_less", "none_or_all", "not_all", "one_of_none", "one_of_two", "one_or_none", "order_byte", "other_twos", "product_byte", "sign_below", "six_on", "ten_high", "ten_low", "ten_or_none", "top_two"]
def m_lmixed : MS := mSeq (mAsg (mLst (mCons (mC (.int 2147483629)) (mCons (mC (.int 2147483587)) (mCons (mC (.int 2147483579)) (mCons (mC (.int 2147483563)) (mCons (mC (.int 2147483549)) (mCons (mC (.int 2147483543)) (mCons (mC (.int 2147483497)) (mCons (mC (.int 2147483489)) (mNil)))))))))) (gSet 3)) (mSeq (mAsg (mOp fMod (mOp fAdd (mOp fAdd (mOp fAdd (mVar 0) (mOp fMul (mC (.int 7919)) (mVar 2))) (mOp fMul (mC (.int 104729)) (mVar 1))) (mC (.int 13))) (mC (.int 2147483647))) (gSet 4)) (mSeq (mAsg (mOp fMod (mOp fPow (mVar 4) (mC (.int 5))) (mOp fIx (mVar 3) (mOp fMod (mVar 1) (mC (.int 8))))) (gSet 4)) (mSeq (mAsg (mOp fMod (mOp fAdd (mOp fAdd (mVar 4) (mOp fMul (mC (.int 40692)) (mVar 2))) (mVar 1)) (mC (.int 2147483647))) (gSet 5)) (mRet (mOp fAdd (mOp fMul (mOp fMod (mOp fPow (mVar 5) (mC (.int 5))) (mC (.int 2147483647))) (mC (.int 1000000007))) (mVar 4))))))
def f_lmixed : MF := mFn 6 [] m_lmixed
def b_ldraws_0 : MS := mIfS (mTest (mOp fGt (mVar 4) (mC (.int 0)))) (mSeq (mDrop (mLm lmAppend 3 (mCons (mOp fMod (mVar 4) (mOp fIx (mVar 2) (mVar 5))) (mNil)))) (mAsg (mOp fDiv (mVar 4) (mOp fIx (mVar 2) (mVar 5))) (gSet 4))) (mDrop (mLm lmAppend 3 (mCons (mOp fMod (mFz (mCall f_lmixed (mCons (mVar 0) (mCons (mVar 5) (mCons (mVar 1) (mNil)))))) (mOp fIx (mVar 2) (mVar 5))) (mNil))))
def m_ldraws : MS := mSeq (mSetO 3 (mLstO (mNil))) (mSeq (mAsg (mC (.int 0)) (gSet 4)) (mSeq (mIfS (mTest (mOp fGe (mBlt bAbs (mCons (mVar 0) (mNil))) (mOp fPow (mC (.int 10)) (mC (.int 18))))) (mAsg (mBlt bAbs (mCons (mVar 0) (mNil))) (gSet 4)) (mPass)) (mSeq (mFor (mR1 (mCons (mBlt bLen (mCons (mVar 2) (mNil))) (mNil))) (gSet 5) (b_ldraws_0)) (mRet (mMove 3)))))
def f_ldraws : MF := mFn 6 [] m_ldraws
def m_lcell : MS := mSeq (mIfS (mTest (mOp fLt (mVar 1) (mBlt bLen (mCons (mVar 0) (mNil))))) (mRet (mOp fIx (mVar 0) (mVar 1))) (mPass)) (mSeq (mIfS (mTest (mOp fEq (mBlt bLen (mCons (mVar 0) (mNil))) (mC (.int 0)))) (mRet (mOp fMul (mC (.int 7919)) (mOp fAdd (mVar 1) (mC (.int 1))))) (mPass)) (mRet (mOp fAdd (mOp fIx (mVar 0) (mOp fMod (mVar 1) (mBlt bLen (mCons (mVar 0) (mNil))))) (mOp fMul (mC (.int 104729)) (mVar 1)))))
def f_lcell : MF := mFn 2 [] m_lcell
def b_ppower_0 : MS := mAsg (mOp fMul (mVar 2) (mVar 0)) (gSet 2)
def m_ppower : MS := mSeq (mAsg (mC (.int 1)) (gSet 2)) (mSeq (mFor (mR1 (mCons (mVar 1) (mNil))) (gSet 3) (b_ppower_0)) (mRet (mVar 2)))
def f_ppower : MF := mFn 4 [] m_ppower
def m_pleast_of : MS := mSeq (mIfS (mTest (mOp fEq (mOp fIx (mVar 0) (mC (.int 2))) (mC (.str "none")))) (mRet (mC (.int 0))) (mPass)) (mSeq (mIfS (mTest (mOp fEq (mOp fIx (mVar 0) (mC (.int 2))) (mC (.str "end")))) (mRet (mOp fSub (mC (.int 1)) (mFz (mCall f_ppower (mCons (mC (.int 10)) (mCons (mOp fIx (mVar 0) (mC (.int 1))) (mNil))))))) (mPass)) (mRet (mOp fMul (mUn fNeg (mC (.int 5))) (mFz (mCall f_ppower (mCons (mC (.int 10)) (mCons (mOp fSub (mOp fIx (mVar 0) (mC (.int 1))) (mC (.int 1))) (mNil))))))))
def f_pleast_of : MF := mFn 1 [] m_pleast_of
def m_pfolded : MS := mSeq (mAsg (mFz (mCall f_ppower (mCons (mC (.int 10)) (mCons (mOp fIx (mVar 0) (mC (.int 1))) (mNil))))) (gSet 2)) (mSeq (mIfS (mTest (mOp fEq (mOp fIx (mVar 0) (mC (.int 2))) (mC (.str "none")))) (mRet (mOp fMod (mVar 1) (mVar 2))) (mPass)) (mSeq (mIfS (mTest (mOp fEq (mOp fIx (mVar 0) (mC (.int 2))) (mC (.str "tens")))) (mRet (mOp fAdd (mOp fMod (mOp fSub (mVar 1) (mFz (mCall f_pleast_of (mCons (mVar 0) (mNil))))) (mVar 2)) (mFz (mCall f_pleast_of (mCons (mVar 0) (mNil)))))) (mPass)) (mSeq (mIfS (mTest (mOp fLt (mVar 1) (mC (.int 0)))) (mRet (mUn fNeg (mOp fMod (mUn fNeg (mVar 1)) (mVar 2)))) (mPass)) (mRet (mOp fMod (mVar 1) (mVar 2))))))
def f_pfolded : MF := mFn 3 [] m_pfolded
def m_pmost_of : MS := mSeq (mIfS (mTest (mOp fEq (mOp fIx (mVar 0) (mC (.int 2))) (mC (.str "tens")))) (mRet (mOp fSub (mOp fMul (mC (.int 5)) (mFz (mCall f_ppower (mCons (mC (.int 10)) (mCons (mOp fSub (mOp fIx (mVar 0) (mC (.int 1))) (mC (.int 1))) (mNil)))))) (mC (.int 1)))) (mPass)) (mRet (mOp fSub (mFz (mCall f_ppower (mCons (mC (.int 10)) (mCons (mOp fIx (mVar 0) (mC (.int 1))) (mNil))))) (mC (.int 1))))
def f_pmost_of : MF := mFn 1 [] m_pmost_of
def b_pfigures_of_0 : MS := mSeq (mDrop (mLm lmAppend 2 (mCons (mOp fMod (mVar 0) (mC (.int 10))) (mNil)))) (mAsg (mOp fDiv (mVar 0) (mC (.int 10))) (gSet 0))
def m_pfigures_of : MS := mSeq (mSetO 2 (mLstO (mNil))) (mSeq (mFor (mR1 (mCons (mVar 1) (mNil))) (gSet 3) (b_pfigures_of_0)) (mRet (mRevA (mVar 2))))
def f_pfigures_of : MF := mFn 4 [] m_pfigures_of
def m_psign_half : MS := mSeq (mIfS (mTest (mOp fLt (mVar 0) (mC (.int 0)))) (mRet (mC (.int 13))) (mPass)) (mRet (mC (.int 12)))
def f_psign_half : MF := mFn 1 [] m_psign_half
def m_phalves_of : MS := mSeq (mAsg (mOp fAdd (mOp fIx (mVar 0) (mC (.int 1))) (mBlt bInt (mCons (mOp fEq (mOp fIx (mVar 0) (mC (.int 2))) (mC (.str "end"))) (mNil)))) (gSet 1)) (mRet (mTup (mCons (mOp fAdd (mVar 1) (mOp fMod (mVar 1) (mC (.int 2)))) (mCons (mOp fMod (mVar 1) (mC (.int 2))) (mNil)))))
def f_phalves_of : MF := mFn 2 [] m_phalves_of
def b_pkept_halves_0 : MS := mDrop (mLm lmExtend 3 (mCons (mLst (mCons (mC (.int 15)) (mCons (mVar 4) (mNil)))) (mNil)))
def m_pkept_halves : MS := mSeq (mIfS (mTest (mOp fEq (mOp fIx (mVar 0) (mC (.int 2))) (mC (.str "tens")))) (mAsg (mOp fMod (mVar 1) (mFz (mCall f_ppower (mCons (mC (.int 10)) (mCons (mOp fIx (mVar 0) (mC (.int 1))) (mNil)))))) (gSet 1)) (mPass)) (mSeq (mAsg (mFz (mCall f_pfigures_of (mCons (mBlt bAbs (mCons (mVar 1) (mNil))) (mCons (mOp fIx (mVar 0) (mC (.int 1))) (mNil))))) (gSet 2)) (mSeq (mIfS (mTest (mOp fEq (mOp fIx (mVar 0) (mC (.int 0))) (mC (.str "packed")))) (mSeq (mAsg (mOp fMul (mLst (mCons (mFz (mCall f_psign_half (mCons (mVar 1) (mNil)))) (mNil))) (mBlt bInt (mCons (mOp fEq (mOp fIx (mVar 0) (mC (.int 2))) (mC (.str "end"))) (mNil)))) (gSet 5)) (mRet (mOp fAdd (mOp fAdd (mOp fMul (mLst (mCons (mC (.int 0)) (mNil))) (mOp fIx (mFz (mCall f_phalves_of (mCons (mVar 0) (mNil)))) (mC (.int 1)))) (mVar 2)) (mVar 5)))) (mPass)) (mSeq (mSetO 3 (mLstO (mNil))) (mSeq (mFor (mItV (mVar 2)) (gSet 4) (b_pkept_halves_0)) (mSeq (mIfS (mTest (mOp fEq (mOp fIx (mVar 0) (mC (.int 2))) (mC (.str "end")))) (mSetIx 3 (mFz (mCall f_psign_half (mCons (mVar 1) (mNil)))) (mUn fNeg (mC (.int 2)))) (mPass)) (mRet (mMove 3)))))))
def f_pkept_halves : MF := mFn 6 [] m_pkept_halves
def m_pfits : MS := mRet (mChain fLe fLe (mFz (mCall f_pleast_of (mCons (mVar 0) (mNil)))) (mVar 1) (mFz (mCall f_pmost_of (mCons (mVar 0) (mNil)))))
def f_pfits : MF := mFn 2 [] m_pfits
def m_pkept : MS := mSeq (mIfS (mNotT (mTest (mFz (mCall f_pfits (mCons (mVar 0) (mCons (mVar 1) (mNil))))))) (mRaise1 "NoFit" "number" (mVar 1)) (mPass)) (mSeq (mAsg (mFz (mCall f_pkept_halves (mCons (mVar 0) (mCons (mVar 1) (mNil))))) (gSet 2)) (mRet (mBlt bTuple (mCons (mFz (mLcO (mR3 (mCons (mC (.int 0)) (mCons (mBlt bLen (mCons (mVar 2) (mNil))) (mCons (mC (.int 2)) (mNil))))) (.nm 3) (mYes) (mOp fAdd (mOp fMul (mC (.int 16)) (mOp fIx (mVar 2) (mVar 3))) (mOp fIx (mVar 2) (mOp fAdd (mVar 3) (mC (.int 1))))) [3])) (mNil)))))
def f_pkept : MF := mFn 4 [] m_pkept
def m_pis_table : MS := mRet (mBv (mAndT (mTest (mOp fEq (mBlt bLen (mCons (mVar 0) (mNil))) (mC (.int 256)))) (mTest (mBlt bAll (mCons (mFz (mLcO (mItV (mVar 0)) (.nm 1) (mYes) (mChain fLe fLt (mC (.int 0)) (mVar 1) (mC (.int 256))) [1])) (mNil))))))
def f_pis_table : MF := mFn 2 [] m_pis_table
def m_pparts_due : MS := mSeq (mIfS (mTest (mKin [("look", (.str "ct")), ("mark", (.str "m"))] (mVar 0))) (mRet (mKix [("look", (.str "ct")), ("mark", (.str "m"))] (mVar 0))) (mPass)) (mRet (mKget [("put", (.str "cb")), ("copy", (.str "cc")), ("add", (.str "cc")), ("addc", (.str "cc")), ("and", (.str "cc")), ("or", (.str "cc")), ("left", (.str "c")), ("right", (.str "c"))] (mVar 0)))
def f_pparts_due : MF := mFn 1 [] m_pparts_due
def m_pis_row : MS := mSeq (mAsg (mFz (mCall f_pparts_due (mCons (mOp fIx (mVar 0) (mC (.int 0))) (mNil)))) (gSet 3)) (mSeq (mIfS (mOrT (mTest (mOp fIsN (mVar 3) (mC .non))) (mTest (mOp fNe (mBlt bLen (mCons (mVar 0) (mNil))) (mOp fAdd (mC (.int 1)) (mBlt bLen (mCons (mVar 3) (mNil))))))) (mRet (mC (.bl false))) (mPass)) (mSeq (mAsg (mDict [.inr "c", .inr "b", .inr "t", .inr "m"] (mCons (mVar 1) (mCons (mC (.int 256)) (mCons (mVar 2) (mCons (mC (.int 2)) (mNil)))))) (gSet 4)) (mRet (mBlt bAll (mCons (mFz (mLcO (mZip (mCons (mSl (mVar 0) (mPart (mC (.int 1))) (mNo)) (mCons (mVar 3) (mNil)))) (.tp [5, 6]) (mYes) (mChain fLe fLt (mC (.int 0)) (mVar 5) (mOp fDix (mVar 4) (mVar 6))) [5, 6])) (mNil))))))
def f_pis_row : MF := mFn 7 [] m_pis_row
def b_phold_program_0 : MS := mIfS (mOrT (mTest (mOp fEq (mVar 4) (mC (.int 16)))) (mNotT (mTest (mFz (mCall f_pis_table (mCons (mVar 5) (mNil))))))) (mRaise1 "NoTable" "at" (mVar 4)) (mPass)
def b_phold_program_1 : MS := mIfS (mOrT (mTest (mOp fEq (mVar 4) (mC (.int 9000)))) (mNotT (mTest (mFz (mCall f_pis_row (mCons (mVar 6) (mCons (mVar 1) (mCons (mBlt bLen (mCons (mVar 2) (mNil))) (mNil))))))))) (mRaise1 "NoRow" "at" (mVar 4)) (mPass)
def m_phold_program : MS := mSeq (mAsg (mVar 0) (gTp 2 (gsCons (gSet 2) (gsCons (gSet 3) (gsNil))))) (mSeq (mFor (mEnumK 0 (mCons (mVar 2) (mNil))) (gTp 2 (gsCons (gSet 4) (gsCons (gSet 5) (gsNil)))) (b_phold_program_0)) (mFor (mEnumK 0 (mCons (mVar 3) (mNil))) (gTp 2 (gsCons (gSet 4) (gsCons (gSet 6) (gsNil)))) (b_phold_program_1)))
def f_phold_program : MF := mFn 7 [] m_phold_program
def m_pshift_step : MS := mSeq (mAsg (mIxV 1 (mVar 2)) (gSet 4)) (mSeq (mIfS (mTest (mOp fEq (mVar 0) (mC (.str "left")))) (mSeq (mSetIx 1 (mOp fMod (mOp fAdd (mOp fMul (mC (.int 2)) (mVar 4)) (mVar 3)) (mC (.int 256))) (mVar 2)) (mRet (mOp fDiv (mVar 4) (mC (.int 128))))) (mPass)) (mSeq (mSetIx 1 (mOp fAdd (mOp fDiv (mVar 4) (mC (.int 2))) (mOp fMul (mC (.int 128)) (mVar 3))) (mVar 2)) (mRet (mOp fMod (mVar 4) (mC (.int 2))))))
def f_pshift_step : MF := mFn 5 [1] m_pshift_step
def m_psum_step : MS := mSeq (mAsg (mOp fAdd (mIxV 1 (mVar 2)) (mIxV 1 (mVar 3))) (gSet 5)) (mSeq (mIfS (mTest (mOp fEq (mVar 0) (mC (.str "addc")))) (mAug fAddI 5 (mVar 4)) (mPass)) (mSeq (mSetIx 1 (mOp fMod (mVar 5) (mC (.int 256))) (mVar 2)) (mRet (mOp fDiv (mVar 5) (mC (.int 256))))))
def f_psum_step : MF := mFn 6 [1] m_psum_step
def m_pstep : MS := mSeq (mAsg (mOp fIx (mVar 1) (mC (.int 0))) (gSet 4)) (mSeq (mIfS (mTest (mOp fEq (mVar 4) (mC (.str "mark")))) (mRet (mOp fIx (mVar 1) (mC (.int 1)))) (mPass)) (mSeq (mIfS (mTest (mOp fIn (mVar 4) (mTup (mCons (mC (.str "left")) (mCons (mC (.str "right")) (mNil)))))) (mRet (mFz (mCallB f_pshift_step (mbV (mVar 4) (mbB 2 (mbV (mOp fIx (mVar 1) (mC (.int 1))) (mbV (mVar 3) (mbNil)))))))) (mPass)) (mSeq (mAsg (mSl (mVar 1) (mPart (mC (.int 1))) (mNo)) (gTp 2 (gsCons (gSet 5) (gsCons (gSet 6) (gsNil))))) (mSeq (mIfS (mTest (mOp fIn (mVar 4) (mTup (mCons (mC (.str "add")) (mCons (mC (.str "addc")) (mNil)))))) (mRet (mFz (mCallB f_psum_step (mbV (mVar 4) (mbB 2 (mbV (mVar 5) (mbV (mVar 6) (mbV (mVar 3) (mbNil))))))))) (mPass)) (mSeq (mIfS (mTest (mOp fEq (mVar 4) (mC (.str "put")))) (mSetIx 2 (mVar 6) (mVar 5)) (mIfS (mTest (mOp fEq (mVar 4) (mC (.str "copy")))) (mSetIx 2 (mIxV 2 (mVar 6)) (mVar 5)) (mIfS (mTest (mOp fEq (mVar 4) (mC (.str "and")))) (mSetIx 2 (mOp fAnd (mIxV 2 (mVar 5)) (mIxV 2 (mVar 6))) (mVar 5)) (mIfS (mTest (mOp fEq (mVar 4) (mC (.str "or")))) (mSetIx 2 (mOp fOr (mIxV 2 (mVar 5)) (mIxV 2 (mVar 6))) (mVar 5)) (mSetIx 2 (mOp fIx (mOp fIx (mVar 0) (mVar 6)) (mIxV 2 (mVar 5))) (mVar 5)))))) (mRet (mVar 3)))))))
def f_pstep : MF := mFn 7 [2] m_pstep
def b_pwork_0 : MS := mAsg (mFz (mCallB f_pstep (mbV (mOp fIx (mVar 0) (mC (.int 0))) (mbV (mVar 4) (mbB 3 (mbV (mVar 2) (mbNil))))))) (gSet 2)
def m_pwork : MS := mSeq (mSetO 3 (mListO (mCons (mVar 1) (mNil)))) (mSeq (mFor (mItV (mOp fIx (mVar 0) (mC (.int 1)))) (gSet 4) (b_pwork_0)) (mRet (mTup (mCons (mVar 3) (mCons (mVar 2) (mNil))))))
def f_pwork : MF := mFn 5 [] m_pwork
def b_lrun_0 : MS := mSeq (mAsg (mOp fIx (mVar 3) (mC (.int 0))) (gSet 6)) (mSeq (mAsg (mOp fIx (mVar 3) (mC (.int 1))) (gSet 7)) (mIfS (mTest (mOp fEq (mVar 6) (mC (.str "copy")))) (mSetIx 1 (mIxV 1 (mOp fIx (mVar 3) (mC (.int 2)))) (mVar 7)) (mIfS (mTest (mOp fEq (mVar 6) (mC (.str "look")))) (mSetIx 1 (mOp fIx (mOp fIx (mVar 4) (mOp fIx (mVar 3) (mC (.int 2)))) (mIxV 1 (mVar 7))) (mVar 7)) (mIfS (mOrT (mTest (mOp fEq (mVar 6) (mC (.str "add")))) (mTest (mOp fEq (mVar 6) (mC (.str "addc"))))) (mSeq (mAsg (mOp fAdd (mOp fAdd (mIxV 1 (mVar 7)) (mIxV 1 (mOp fIx (mVar 3) (mC (.int 2))))) (mOp fMul (mVar 2) (mBlt bInt (mCons (mOp fEq (mVar 6) (mC (.str "addc"))) (mNil))))) (gSet 8)) (mSeq (mSetIx 1 (mOp fMod (mVar 8) (mC (.int 256))) (mVar 7)) (mAsg (mOp fDiv (mVar 8) (mC (.int 256))) (gSet 2)))) (mIfS (mTest (mOp fEq (mVar 6) (mC (.str "put")))) (mSetIx 1 (mOp fIx (mVar 3) (mC (.int 2))) (mVar 7)) (mIfS (mTest (mOp fEq (mVar 6) (mC (.str "and")))) (mSetIx 1 (mOp fAnd (mIxV 1 (mVar 7)) (mIxV 1 (mOp fIx (mVar 3) (mC (.int 2))))) (mVar 7)) (mIfS (mTest (mOp fEq (mVar 6) (mC (.str "or")))) (mSetIx 1 (mOp fOr (mIxV 1 (mVar 7)) (mIxV 1 (mOp fIx (mVar 3) (mC (.int 2))))) (mVar 7)) (mIfS (mTest (mOp fEq (mVar 6) (mC (.str "left")))) (mSeq (mAsg (mOp fAdd (mOp fMul (mC (.int 2)) (mIxV 1 (mVar 7))) (mVar 2)) (gSet 8)) (mSeq (mSetIx 1 (mOp fMod (mVar 8) (mC (.int 256))) (mVar 7)) (mAsg (mOp fDiv (mVar 8) (mC (.int 256))) (gSet 2)))) (mIfS (mTest (mOp fEq (mVar 6) (mC (.str "right")))) (mSeq (mAsg (mOp fAdd (mIxV 1 (mVar 7)) (mOp fMul (mC (.int 256)) (mVar 2))) (gSet 8)) (mSeq (mSetIx 1 (mOp fDiv (mVar 8) (mC (.int 2))) (mVar 7)) (mAsg (mOp fMod (mVar 8) (mC (.int 2))) (gSet 2)))) (mAsg (mVar 7) (gSet 2)))))))))))
def m_lrun : MS := mSeq (mAsg (mVar 0) (gTp 2 (gsCons (gSet 4) (gsCons (gSet 5) (gsNil))))) (mSeq (mSetO 1 (mListO (mCons (mVar 1) (mNil)))) (mSeq (mFor (mItV (mVar 5)) (gSet 3) (b_lrun_0)) (mRet (mTup (mCons (mVar 1) (mCons (mVar 2) (mNil)))))))
def f_lrun : MF := mFn 9 [] m_lrun
def m_lsome_row : MS := mSeq (mAsg (mFz (mCall f_ldraws (mCons (mVar 0) (mCons (mVar 1) (mCons (mLst (mCons (mC (.int 12)) (mCons (mC (.int 256)) (mCons (mC (.int 256)) (mCons (mC (.int 256)) (mNil)))))) (mNil)))))) (gTp 4 (gsCons (gSet 5) (gsCons (gSet 6) (gsCons (gSet 7) (gsCons (gSet 8) (gsNil))))))) (mSeq (mAsg (mOp fIx (mLst (mCons (mC (.str "put")) (mCons (mC (.str "copy")) (mCons (mC (.str "add")) (mCons (mC (.str "addc")) (mCons (mC (.str "and")) (mCons (mC (.str "or")) (mCons (mC (.str "left")) (mCons (mC (.str "right")) (mCons (mC (.str "look")) (mCons (mC (.str "mark")) (mCons (mC (.str "add")) (mCons (mC (.str "left")) (mNil)))))))))))))) (mVar 5)) (gSet 4)) (mSeq (mIfS (mAndT (mTest (mOp fEq (mVar 4) (mC (.str "look")))) (mTest (mOp fEq (mVar 3) (mC (.int 0))))) (mAsg (mC (.str "copy")) (gSet 4)) (mPass)) (mSeq (mIfS (mTest (mOp fEq (mVar 4) (mC (.str "mark")))) (mRet (mTup (mCons (mVar 4) (mCons (mOp fMod (mVar 8) (mC (.int 2))) (mNil))))) (mPass)) (mSeq (mIfS (mTest (mOp fIn (mVar 4) (mTup (mCons (mC (.str "left")) (mCons (mC (.str "right")) (mNil)))))) (mRet (mTup (mCons (mVar 4) (mCons (mOp fMod (mVar 6) (mVar 2)) (mNil))))) (mPass)) (mSeq (mIfS (mTest (mOp fEq (mVar 4) (mC (.str "put")))) (mRet (mTup (mCons (mVar 4) (mCons (mOp fMod (mVar 6) (mVar 2)) (mCons (mVar 8) (mNil)))))) (mPass)) (mSeq (mIfS (mTest (mOp fEq (mVar 4) (mC (.str "look")))) (mRet (mTup (mCons (mVar 4) (mCons (mOp fMod (mVar 6) (mVar 2)) (mCons (mOp fMod (mVar 7) (mVar 3)) (mNil)))))) (mPass)) (mRet (mTup (mCons (mVar 4) (mCons (mOp fMod (mVar 6) (mVar 2)) (mCons (mOp fMod (mVar 7) (mVar 2)) (mNil))))))))))))
def f_lsome_row : MF := mFn 9 [] m_lsome_row
def m_pdue_of : MS := mSeq (mIfS (mTest (mOp fEq (mVar 0) (mC (.str "compare")))) (mRet (mTup (mCons (mTup (mCons (mOp fAdd (mBlt bInt (mCons (mOp fGe (mVar 2) (mVar 3)) (mNil))) (mBlt bInt (mCons (mOp fGt (mVar 2) (mVar 3)) (mNil)))) (mNil))) (mCons (mC (.int 0)) (mNil))))) (mPass)) (mSeq (mAsg (mOp fAdd (mVar 2) (mVar 3)) (gSet 4)) (mSeq (mIfS (mTest (mOp fEq (mVar 0) (mC (.str "difference")))) (mAsg (mOp fSub (mVar 2) (mVar 3)) (gSet 4)) (mPass)) (mSeq (mAsg (mFz (mCall f_pfolded (mCons (mVar 1) (mCons (mVar 4) (mNil))))) (gSet 5)) (mRet (mTup (mCons (mFz (mCall f_pkept (mCons (mVar 1) (mCons (mVar 5) (mNil))))) (mCons (mBlt bInt (mCons (mOp fNe (mVar 5) (mVar 4)) (mNil))) (mNil))))))))
def f_pdue_of : MF := mFn 6 [] m_pdue_of
def m_pdoes_pair : MS := mSeq (mAsg (mBlt bList (mCons (mOp fAdd (mFz (mCall f_pkept (mCons (mVar 1) (mCons (mVar 3) (mNil))))) (mFz (mCall f_pkept (mCons (mVar 1) (mCons (mVar 4) (mNil)))))) (mNil))) (gSet 5)) (mSeq (mAsg (mFz (mCall f_pwork (mCons (mVar 2) (mCons (mOp fAdd (mVar 5) (mOp fMul (mLst (mCons (mC (.int 0)) (mNil))) (mOp fSub (mC (.int 256)) (mBlt bLen (mCons (mVar 5) (mNil)))))) (mCons (mC (.int 0)) (mNil)))))) (gTp 2 (gsCons (gSet 6) (gsCons (gSet 7) (gsNil))))) (mSeq (mAsg (mFz (mCall f_pdue_of (mCons (mVar 0) (mCons (mVar 1) (mCons (mVar 3) (mCons (mVar 4) (mNil))))))) (gTp 2 (gsCons (gSet 8) (gsCons (gSet 9) (gsNil))))) (mRet (mBv (mAndT (mTest (mOp fEq (mBlt bTuple (mCons (mSl (mVar 6) (mNo) (mPart (mBlt bLen (mCons (mVar 8) (mNil))))) (mNil))) (mVar 8))) (mTest (mOp fEq (mVar 7) (mVar 9))))))))
def f_pdoes_pair : MF := mFn 10 [] m_pdoes_pair
def b_pdoes_0 : MS := mIfS (mNotT (mTest (mBlt bAll (mCons (mFz (mLcO (mR1 (mCons (mC (.int 10)) (mNil))) (.nm 5) (mYes) (mFz (mCall0 f_pdoes_pair (mCons (mVar 0) (mCons (mVar 3) (mCons (mVar 2) (mCons (mVar 4) (mCons (mVar 5) (mNil)))))))) [5])) (mNil))))) (mRet (mC (.bl false))) (mPass)
def m_pdoes : MS := mSeq (mIfS (mTest (mOp fNotIn (mVar 0) (mC (.tup [(.str "sum"), (.str "difference"), (.str "compare")])))) (mRaise1 "NoDeed" "deed" (mVar 0)) (mPass)) (mSeq (mIfS (mTest (mOp fNotIn (mVar 1) (mC (.tup [(.str "packed"), (.str "spread")])))) (mRaise1 "NoShape" "part" (mC (.str "kind"))) (mPass)) (mSeq (mDrop (mFz (mCall f_phold_program (mCons (mVar 2) (mCons (mC (.int 256)) (mNil)))))) (mSeq (mAsg (mTup (mCons (mVar 1) (mCons (mC (.int 1)) (mCons (mC (.str "none")) (mCons (mC (.int 0)) (mNil)))))) (gSet 3)) (mSeq (mFor (mR1 (mCons (mC (.int 10)) (mNil))) (gSet 4) (b_pdoes_0)) (mRet (mC (.bl true)))))))
def f_pdoes : MF := mFn 6 [] m_pdoes
def m_lown_tables2 : MS := mSeq (mAsg (mOp fMul (mC (.int 240)) (mBlt bInt (mCons (mOp fEq (mVar 1) (mC (.str "spread"))) (mNil)))) (gSet 2)) (mSeq (mSetO 3 (mLcO (mR1 (mCons (mC (.int 256)) (mNil))) (.nm 7) (mYes) (mOp fMod (mVar 7) (mC (.int 16))) [7])) (mSeq (mSetO 4 (mCpV 3)) (mSeq (mSetO 5 (mLcO (mR1 (mCons (mC (.int 256)) (mNil))) (.nm 7) (mYes) (mOp fAdd (mVar 2) (mOp fMod (mVar 7) (mC (.int 10)))) [7])) (mSeq (mSetO 6 (mLcO (mR1 (mCons (mC (.int 256)) (mNil))) (.nm 7) (mYes) (mOp fMul (mC (.int 128)) (mBlt bInt (mCons (mOp fGt (mVar 7) (mC (.int 9))) (mNil)))) [7])) (mSeq (mIfS (mTest (mOp fNe (mVar 0) (mC (.str "sum")))) (mSeq (mSetO 4 (mLcO (mR1 (mCons (mC (.int 256)) (mNil))) (.nm 7) (mYes) (mBlt bMax (mCons (mC (.int 0)) (mCons (mOp fSub (mC (.int 10)) (mOp fMod (mVar 7) (mC (.int 16)))) (mNil)))) [7])) (mSetO 6 (mLcO (mR1 (mCons (mC (.int 256)) (mNil))) (.nm 7) (mYes) (mOp fMul (mC (.int 128)) (mBlt bInt (mCons (mOp fLt (mVar 7) (mC (.int 10))) (mNil)))) [7]))) (mPass)) (mSeq (mIfS (mTest (mOp fEq (mVar 0) (mC (.str "compare")))) (mSetO 5 (mLcO (mR1 (mCons (mC (.int 256)) (mNil))) (.nm 7) (mYes) (mOp fAdd (mBlt bInt (mCons (mOp fGt (mVar 7) (mC (.int 9))) (mNil))) (mBlt bInt (mCons (mOp fGt (mVar 7) (mC (.int 10))) (mNil)))) [7])) (mPass)) (mRet (mOlD [3, 4, 5, 6]))))))))
def f_lown_tables2 : MF := mFn 8 [] m_lown_tables2
def m_lown_rows2 : MS := mSeq (mAsg (mLst (mCons (mTup (mCons (mC (.str "look")) (mCons (mC (.int 0)) (mCons (mC (.int 0)) (mNil))))) (mCons (mTup (mCons (mC (.str "look")) (mCons (mC (.int 1)) (mCons (mC (.int 1)) (mNil))))) (mCons (mTup (mCons (mC (.str "add")) (mCons (mC (.int 0)) (mCons (mC (.int 1)) (mNil))))) (mCons (mTup (mCons (mC (.str "copy")) (mCons (mC (.int 1)) (mCons (mC (.int 0)) (mNil))))) (mCons (mTup (mCons (mC (.str "look")) (mCons (mC (.int 0)) (mCons (mC (.int 2)) (mNil))))) (mCons (mTup (mCons (mC (.str "look")) (mCons (mC (.int 1)) (mCons (mC (.int 3)) (mNil))))) (mNil)))))))) (gSet 1)) (mSeq (mIfS (mTest (mOp fEq (mVar 0) (mC (.str "compare")))) (mRet (mOpO fAddL (mVar 1) (mLst (mCons (mTup (mCons (mC (.str "mark")) (mCons (mC (.int 0)) (mNil)))) (mNil))))) (mPass)) (mRet (mOpO fAddL (mVar 1) (mLst (mCons (mTup (mCons (mC (.str "left")) (mCons (mC (.int 1)) (mNil)))) (mNil))))))
def f_lown_rows2 : MF := mFn 2 [] m_lown_rows2
def m_lpair_right : MS := mSeq (mAsg (mOp fMul (mC (.int 240)) (mBlt bInt (mCons (mOp fEq (mVar 1) (mC (.str "spread"))) (mNil)))) (gSet 5)) (mSeq (mAsg (mFz (mCall f_lrun (mCons (mVar 2) (mCons (mOp fAdd (mLst (mCons (mOp fAdd (mVar 5) (mVar 3)) (mCons (mOp fAdd (mVar 5) (mVar 4)) (mNil)))) (mOp fMul (mLst (mCons (mC (.int 0)) (mNil))) (mC (.int 254)))) (mCons (mC (.int 0)) (mNil)))))) (gTp 2 (gsCons (gSet 6) (gsCons (gSet 7) (gsNil))))) (mSeq (mIfS (mTest (mOp fEq (mVar 0) (mC (.str "sum")))) (mRet (mBv (mAndT (mTest (mOp fEq (mOp fIx (mVar 6) (mC (.int 0))) (mOp fAdd (mVar 5) (mOp fMod (mOp fAdd (mVar 3) (mVar 4)) (mC (.int 10)))))) (mTest (mOp fEq (mVar 7) (mBlt bInt (mCons (mOp fGt (mOp fAdd (mVar 3) (mVar 4)) (mC (.int 9))) (mNil)))))))) (mPass)) (mSeq (mIfS (mTest (mOp fEq (mVar 0) (mC (.str "difference")))) (mRet (mBv (mAndT (mTest (mOp fEq (mOp fIx (mVar 6) (mC (.int 0))) (mOp fAdd (mVar 5) (mOp fMod (mOp fSub (mVar 3) (mVar 4)) (mC (.int 10)))))) (mTest (mOp fEq (mVar 7) (mBlt bInt (mCons (mOp fLt (mVar 3) (mVar 4)) (mNil)))))))) (mPass)) (mRet (mBv (mAndT (mTest (mOp fEq (mOp fIx (mVar 6) (mC (.int 0))) (mOp fAdd (mBlt bInt (mCons (mOp fGe (mVar 3) (mVar 4)) (mNil))) (mBlt bInt (mCons (mOp fGt (mVar 3) (mVar 4)) (mNil)))))) (mTest (mOp fEq (mVar 7) (mC (.int 0))))))))))
def f_lpair_right : MF := mFn 8 [] m_lpair_right
def b_lright8_0 : MS := mIfS (mNotT (mTest (mBlt bAll (mCons (mFz (mLcO (mR1 (mCons (mC (.int 10)) (mNil))) (.nm 4) (mYes) (mFz (mCall0 f_lpair_right (mCons (mVar 0) (mCons (mVar 1) (mCons (mVar 2) (mCons (mVar 3) (mCons (mVar 4) (mNil)))))))) [4])) (mNil))))) (mRet (mC (.bl false))) (mPass)
def m_lright8 : MS := mSeq (mFor (mR1 (mCons (mC (.int 10)) (mNil))) (gSet 3) (b_lright8_0)) (mRet (mC (.bl true)))
def f_lright8 : MF := mFn 5 [] m_lright8
def m_lspoilt6 : MS := mSeq (mAsg (mOp fMod (mVar 3) (mLenV 1)) (gSet 3)) (mIfS (mTest (mOp fEq (mVar 2) (mC (.int 0)))) (mSetL 0 (mOp fMod (mOp fAdd (mOp fAdd (mIxL 0 (mOp fMod (mVar 4) (mC (.int 4))) 5) (mC (.int 1))) (mVar 3)) (mC (.int 256))) (mOp fMod (mVar 4) (mC (.int 4))) 5) (mIfS (mTest (mOp fEq (mVar 2) (mC (.int 1)))) (mDrop (mLm lmPopAt 1 (mCons (mVar 3) (mNil)))) (mIfS (mTest (mOp fEq (mVar 2) (mC (.int 2)))) (mDrop (mLm lmInsert 1 (mCons (mOp fMod (mVar 4) (mOp fAdd (mLenV 1) (mC (.int 1)))) (mCons (mIxV 1 (mVar 3)) (mNil))))) (mIfS (mTest (mOp fEq (mVar 2) (mC (.int 3)))) (mDrop (mLm lmInsert 1 (mCons (mOp fMod (mVar 4) (mLenV 1)) (mCons (mLm lmPopAt 1 (mCons (mVar 3) (mNil))) (mNil))))) (mIfS (mTest (mOp fEq (mVar 2) (mC (.int 4)))) (mIfS (mTest (mOp fEq (mOp fIx (mIxV 1 (mVar 3)) (mC (.int 0))) (mC (.str "mark")))) (mSetIx 1 (mTup (mCons (mC (.str "mark")) (mCons (mC (.int 1)) (mNil)))) (mVar 3)) (mIfS (mTest (mOp fEq (mOp fIx (mIxV 1 (mVar 3)) (mC (.int 0))) (mC (.str "look")))) (mSetIx 1 (mTup (mCons (mC (.str "look")) (mCons (mOp fIx (mIxV 1 (mVar 3)) (mC (.int 1))) (mCons (mOp fMod (mOp fAdd (mOp fIx (mIxV 1 (mVar 3)) (mC (.int 2))) (mC (.int 1))) (mC (.int 4))) (mNil))))) (mVar 3)) (mSetIx 1 (mOp fAdd (mSl (mIxV 1 (mVar 3)) (mNo) (mPart (mUn fNeg (mC (.int 1))))) (mTup (mCons (mOp fMod (mOp fAdd (mOp fIx (mIxV 1 (mVar 3)) (mUn fNeg (mC (.int 1)))) (mC (.int 1))) (mC (.int 256))) (mNil)))) (mVar 3)))) (mIfS (mTest (mOp fEq (mVar 2) (mC (.int 5)))) (mDrop (mLm lmInsert 1 (mCons (mOp fMod (mVar 4) (mOp fAdd (mLenV 1) (mC (.int 1)))) (mCons (mVar 6) (mNil))))) (mPass)))))))
def f_lspoilt6 : MF := mFn 7 [0, 1] m_lspoilt6
def b_law148_0 : MS := mSeq (mAsg (mFz (mCall f_pdoes (mCons (mOp fIx (mVar 1) (mVar 8)) (mCons (mOp fIx (mVar 2) (mVar 9)) (mCons (mVar 5) (mNil)))))) (gSet 19)) (mIfS (mOrT (mNotT (mTest (mBlt bIsi (mCons (mVar 19) (mCons (mC (.raw (.ty "bool"))) mNil))))) (mTest (mOp fNe (mVar 19) (mVar 6)))) (mRet (mC (.bl false))) (mPass))
def m_law148 : MS := mSeq (mAsg (mFz (mCall f_ldraws (mCons (mFz (mCall f_lcell (mCons (mVar 0) (mCons (mC (.int 0)) (mNil))))) (mCons (mC (.int 419)) (mCons (mLst (mCons (mC (.int 3)) (mCons (mC (.int 2)) (mCons (mC (.int 4)) (mCons (mC (.int 6)) (mCons (mC (.int 3)) (mCons (mC (.int 8)) (mNil)))))))) (mNil)))))) (gTp 6 (gsCons (gSet 8) (gsCons (gSet 9) (gsCons (gSet 10) (gsCons (gSet 11) (gsCons (gSet 12) (gsCons (gSet 13) (gsNil))))))))) (mSeq (mAsg (mFz (mCall f_ldraws (mCons (mFz (mCall f_lcell (mCons (mVar 0) (mCons (mC (.int 3)) (mNil))))) (mCons (mC (.int 420)) (mCons (mLst (mCons (mC (.int 8)) (mCons (mC (.int 254)) (mNil)))) (mNil)))))) (gTp 2 (gsCons (gSet 14) (gsCons (gSet 15) (gsNil))))) (mSeq (mAsg (mFz (mCall f_ldraws (mCons (mFz (mCall f_lcell (mCons (mVar 0) (mCons (mC (.int 1)) (mNil))))) (mCons (mC (.int 421)) (mCons (mLst (mCons (mC (.int 97)) (mCons (mC (.int 89)) (mCons (mC (.int 256)) (mNil))))) (mNil)))))) (gTp 3 (gsCons (gSet 16) (gsCons (gSet 17) (gsCons (gSet 18) (gsNil)))))) (mSeq (mAsg (mTup (mCons (mC (.str "sum")) (mCons (mC (.str "difference")) (mCons (mC (.str "compare")) (mNil))))) (gSet 1)) (mSeq (mAsg (mTup (mCons (mC (.str "packed")) (mCons (mC (.str "spread")) (mNil)))) (gSet 2)) (mSeq (mSetO 3 (mCall f_lown_tables2 (mCons (mOp fIx (mVar 1) (mVar 8)) (mCons (mOp fIx (mVar 2) (mVar 9)) (mNil))))) (mSeq (mSetO 4 (mCall f_lown_rows2 (mCons (mOp fIx (mVar 1) (mVar 8)) (mNil)))) (mSeq (mIfS (mTest (mOp fEq (mVar 11) (mC (.int 0)))) (mAsg (mOp fIx (mLst (mCons (mVar 18) (mCons (mOp fMod (mVar 18) (mC (.int 20))) (mCons (mOp fAdd (mC (.int 240)) (mOp fMod (mVar 18) (mC (.int 10)))) (mCons (mOp fMod (mVar 18) (mC (.int 11))) (mNil)))))) (mOp fMod (mVar 16) (mC (.int 4)))) (gSet 18)) (mPass)) (mSeq (mIfS (mTest (mOp fGt (mVar 10) (mC (.int 0)))) (mDrop (mFz (mCallB f_lspoilt6 (mbB 3 (mbB 4 (mbV (mVar 11) (mbV (mVar 16) (mbV (mVar 17) (mbV (mVar 18) (mbV (mFz (mCall f_lsome_row (mCons (mFz (mCall f_lcell (mCons (mVar 0) (mCons (mC (.int 2)) (mNil))))) (mCons (mC (.int 59)) (mCons (mC (.int 256)) (mCons (mC (.int 4)) (mNil))))))) (mbNil))))))))))) (mPass)) (mSeq (mIfS (mTest (mOp fLt (mVar 14) (mC (.int 2)))) (mDrop (mLm lmInsert 4 (mCons (mC (.int 0)) (mCons (mOp fIx (mTup (mCons (mTup (mCons (mC (.str "addc")) (mCons (mC (.int 0)) (mCons (mOp fAdd (mC (.int 2)) (mVar 15)) (mNil))))) (mCons (mTup (mCons (mC (.str "or")) (mCons (mC (.int 1)) (mCons (mOp fAdd (mC (.int 2)) (mVar 15)) (mNil))))) (mNil)))) (mVar 14)) (mNil))))) (mPass)) (mSeq (mIfS (mTest (mOp fEq (mVar 13) (mC (.int 5)))) (mSetO 4 (mOpO fAddL (mVar 4) (mOp fMul (mLst (mCons (mTup (mCons (mC (.str "copy")) (mCons (mC (.int 40)) (mCons (mC (.int 41)) (mNil))))) (mNil))) (mOp fSub (mC (.int 60)) (mLenV 4))))) (mPass)) (mSeq (mAsg (mTup (mCons (mBlt bTuple (mCons (mFz (mLcO (mItV (mVarL 3)) (.nm 20) (mYes) (mBlt bTuple (mCons (mVar 20) (mNil))) [20])) (mNil))) (mCons (mBlt bTuple (mCons (mVar 4) (mNil))) (mNil)))) (gSet 5)) (mSeq (mIfS (mTest (mOp fEq (mVar 13) (mC (.int 7)))) (mAsg (mVar 12) (gSet 8)) (mPass)) (mSeq (mIfS (mTest (mOp fEq (mVar 13) (mC (.int 6)))) (mAsg (mOp fSub (mC (.int 1)) (mVar 9)) (gSet 9)) (mPass)) (mSeq (mAsg (mFz (mCall f_lright8 (mCons (mOp fIx (mVar 1) (mVar 8)) (mCons (mOp fIx (mVar 2) (mVar 9)) (mCons (mVar 5) (mNil)))))) (gSet 6)) (mSeq (mFor (mR1 (mCons (mOp fSub (mC (.int 2)) (mBlt bInt (mCons (mOp fEq (mVar 13) (mC (.int 5))) (mNil)))) (mNil))) (gSet 7) (b_law148_0)) (mRet (mC (.bl true))))))))))))))))))
def f_law148 : MF := mFn 21 [] m_law148
theorem lcell_ok (ns : List Int) (k : Nat) : ∃ v : Int, f_lcell [.scr ns, .int k] = .ok (.int v, []) := by
  unfold f_lcell
  by_cases h : (k : Int) < ns.length
  · have h' : k < ns.length := by omega
    refine ⟨ns[k], mFn_ok ?_⟩
    simp [m_lcell, h', atI_ge]
  · by_cases h0 : ns.length = 0
    · have h' : ns = [] := List.length_eq_zero_iff.mp h0
      subst h'
      refine ⟨7919 * (k + 1), mFn_ok ?_⟩
      simp [m_lcell, mulOk_l]
    · have h' : ¬ k < ns.length := by omega
      have hp : (0 : Int) < ns.length := by omega
      have e := fmod_ge' (a := k) hp
      have e2 := fmod_lt' (a := k) hp
      have h2 : ((k : Int).fmod ns.length).toNat < ns.length := by omega
      have h3 : ¬ ns = [] := by intro h; subst h; exact h0 rfl
      have h4 : ¬ ((ns.length : Int) = 0) := by omega
      refine ⟨ns[((k : Int).fmod ns.length).toNat] + 104729 * k, mFn_ok ?_⟩
      simp [m_lcell, h', h3, h4, atI_ge e, h2, mulOk_l]
theorem lmixed_ok (a b c : Int) : ∃ v : Int, f_lmixed [.int a, .int b, .int c] = .ok (.int v, []) := by
  unfold f_lmixed
  have e := fmod_ge' (a := b) (b := 8) (by decide)
  have e2 := fmod_lt' (a := b) (b := 8) (by decide)
  generalize hi : b.fmod 8 = i at e e2
  obtain ⟨p, hp, hp1, hp2⟩ : ∃ p : Int, atI [MV.int 2147483629, .int 2147483587, .int 2147483579, .int 2147483563, .int 2147483549, .int 2147483543, .int 2147483497, .int 2147483489] i = some (.int p) ∧ 0 < p ∧ p < 2147483648 := by
    obtain ⟨j, rfl⟩ := Int.eq_ofNat_of_zero_le e
    match j, e2 with
    | 0, _ => exact ⟨_, rfl, by decide, by decide⟩
    | 1, _ => exact ⟨_, rfl, by decide, by decide⟩
    | 2, _ => exact ⟨_, rfl, by decide, by decide⟩
    | 3, _ => exact ⟨_, rfl, by decide, by decide⟩
    | 4, _ => exact ⟨_, rfl, by decide, by decide⟩
    | 5, _ => exact ⟨_, rfl, by decide, by decide⟩
    | 6, _ => exact ⟨_, rfl, by decide, by decide⟩
    | 7, _ => exact ⟨_, rfl, by decide, by decide⟩
    | j + 8, h => exact absurd h (by omega)
  have b1 : ∀ x : Int, 0 ≤ x.fmod 2147483647 ∧ x.fmod 2147483647 < 2147483647 := fun x => ⟨fmod_ge' (by decide), fmod_lt' (by decide)⟩
  have b2 : ∀ x : Int, (x.fmod 2147483647).natAbs < 18446744073709551616 := fun x => by have := b1 x; omega
  have b3 : ∀ x : Int, mulOk (x.fmod 2147483647) 1000000007 = true := fun x => mulOk_r (by decide) (by decide)
  have h : ∃ v ρ, m_lmixed [some (.int a), some (.int b), some (.int c), none, none, none] = .ok (.rt (.int v), ρ) := by
    simp [m_lmixed, szOk_small, mulOk_l, hi, hp, hp1, Int.ne_of_gt hp1, b2, b3]
  obtain ⟨v, ρ, h⟩ := h
  exact ⟨v, mFn_ok ⟨ρ, h⟩⟩
def DrawsAre (ws ds : List Int) : Prop := ds.length = ws.length ∧ ∀ i (h : i < ws.length) (h' : i < ds.length), 0 ≤ ds[i] ∧ ds[i] < ws[i]
theorem ldraws_ok (cell salt : Int) (ws : List Int) (hn : ws.length < 1000) (hw : ∀ w ∈ ws, 0 < w ∧ divOk w = true) : ∃ ds : List Int, DrawsAre ws ds ∧ f_ldraws [.int cell, .int salt, .lst (ws.map .int)] = .ok (.own (ds.map .int), []) := by
  have key : ∀ l0 : Int, ∃ ρ', mLoop (gSet 5) b_ldraws_0 (rngM 0 1 ws.length) [some (.int cell), some (.int salt), some (.lst (ws.map .int)), some (.own []), some (.int l0), none] = .ok (.nx, ρ') ∧ ∃ ds l v, DrawsAre (ws.take ws.length) ds ∧ ρ' = [some (.int cell), some (.int salt), some (.lst (ws.map .int)), some (.own (ds.map .int)), some (.int l), v] := by
    intro l0
    refine loop_rng (fun i ρ => ∃ ds l v, DrawsAre (ws.take i) ds ∧ ρ = [some (.int cell), some (.int salt), some (.lst (ws.map .int)), some (.own (ds.map .int)), some (.int l), v]) ⟨[], l0, none, ⟨by simp, by simp⟩, rfl⟩ ?_
    rintro i ρ hi ⟨ds, l, v, ⟨hd1, hd2⟩, rfl⟩
    have hwi := hw ws[i] (List.getElem_mem hi)
    have hl : ds.length = i := by rw [hd1, List.length_take]; omega
    have ix : atI (ws.map MV.int) (i : Int) = some (.int ws[i]) := by rw [atI_ge (by omega)]; simp [hi]
    have ds' : ∀ d : Int, DrawsAre (ws.take (i + 1)) (ds ++ [d.fmod ws[i]]) := by
      intro d
      refine ⟨by simp [hl, List.length_take]; omega, fun j h h' => ?_⟩
      have hj : j ≤ i := by rw [List.length_take] at h; omega
      rw [List.getElem_take]
      by_cases e : j = i
      · subst e
        rw [List.getElem_append_right (by omega)]
        simp [hl]
        exact ⟨fmod_ge' hwi.1, fmod_lt' hwi.1⟩
      · have := hd2 j (by rw [List.length_take]; omega) (by omega)
        rw [List.getElem_append_left (by omega)]
        rw [List.getElem_take] at this
        exact this
    have hsz : ds.length < sizeLine := by rw [sizeLine_eq]; omega
    by_cases hp : 0 < l
    · refine ⟨[some (.int cell), some (.int salt), some (.lst (ws.map .int)), some (.own (ds.map .int)), some (.int l), some (.int i)], [some (.int cell), some (.int salt), some (.lst (ws.map .int)), some (.own ((ds ++ [l.fmod ws[i]]).map .int)), some (.int (l.fdiv ws[i])), some (.int i)], ?_, .inl ?_, ⟨_, _, _, ds' l, rfl⟩⟩
      · simp
      · simp [b_ldraws_0, hp, isOwn, ix, Int.ne_of_gt hwi.1, hsz, hwi.2]
    · obtain ⟨m, hm⟩ := lmixed_ok cell i salt
      refine ⟨[some (.int cell), some (.int salt), some (.lst (ws.map .int)), some (.own (ds.map .int)), some (.int l), some (.int i)], [some (.int cell), some (.int salt), some (.lst (ws.map .int)), some (.own ((ds ++ [m.fmod ws[i]]).map .int)), some (.int l), some (.int i)], ?_, .inl ?_, ⟨_, _, _, ds' m, rfl⟩⟩
      · simp
      · simp [b_ldraws_0, hp, isOwn, ix, hm, Int.ne_of_gt hwi.1, hsz]
  have e0 : inR (ws.length : Int) = true := inR_of (by omega) (by omega)
  unfold f_ldraws
  by_cases hc : (1000000000000000000 : Int) ≤ (if cell < 0 then -cell else cell)
  · obtain ⟨ρ', h, ds, l, v, hd, rfl⟩ := key (if cell < 0 then -cell else cell)
    refine ⟨ds, by simpa using hd, mFn_ok ?_⟩
    · simp [m_ldraws, szOk_small, hc, e0, h]
  · obtain ⟨ρ', h, ds, l, v, hd, rfl⟩ := key 0
    refine ⟨ds, by simpa using hd, mFn_ok ?_⟩
    · simp [m_ldraws, szOk_small, hc, e0, h]
theorem draws_nil {ds : List Int} : DrawsAre [] ds ↔ ds = [] := by
  constructor
  · intro h; exact List.length_eq_zero_iff.mp h.1
  · rintro rfl; exact ⟨rfl, by simp⟩
theorem draws_cons {w : Int} {ws ds : List Int} : DrawsAre (w :: ws) ds ↔ ∃ d r, ds = d :: r ∧ (0 ≤ d ∧ d < w) ∧ DrawsAre ws r := by
  constructor
  · intro h
    match ds, h with
    | [], h => exact absurd h.1 (by simp)
    | d :: r, h =>
      refine ⟨d, r, rfl, h.2 0 (by simp) (by simp), by simpa using h.1, fun i h1 h2 => ?_⟩
      exact h.2 (i + 1) (by simpa using h1) (by simpa using h2)
  · rintro ⟨d, r, rfl, h1, h2⟩
    refine ⟨by simpa using h2.1, fun i a b => ?_⟩
    match i with
    | 0 => exact h1
    | i + 1 => exact h2.2 i (by simpa using a) (by simpa using b)
theorem divOk_small {w : Int} (h : 0 < w) (h2 : w < 2 ^ 29) : divOk w = true := by
  unfold divOk
  have : w.natAbs < 1073741824 := by omega
  simp [this]; omega
theorem ppower_eq {b : Int} {k : Int} (hb : -(2 ^ 64) < b ∧ b < 2 ^ 64) (hk : k < 2 ^ 40) (hk0 : -(2 ^ 40) < k) : f_ppower [.int b, .int k] = .ok (.int (b ^ k.toNat), []) := by
  obtain ⟨ρ', e, h⟩ := loop_rng (g := gSet 3) (b := b_ppower_0) (lo := 0) (c := 1) (n := k.toNat) (ρ := [some (.int b), some (.int k), some (.int 1), none])
    (fun i ρ => ∃ v, ρ = [some (.int b), some (.int k), some (.int (b ^ i)), v]) ⟨none, by simp⟩ (by
      rintro i ρ hi ⟨v, rfl⟩
      simp [mulOk_r hb.1 hb.2, Int.pow_succ, b_ppower_0])
  obtain ⟨v, rfl⟩ := h
  refine mFn_ok ?_
  simp [m_ppower, inR_of (i := k) (by omega) (by omega), e]
theorem pten_eq {k : Int} (hk : k < 2 ^ 40) (hk0 : -(2 ^ 40) < k) : f_ppower [.int 10, .int k] = .ok (.int (10 ^ k.toNat), []) := ppower_eq (by decide) hk hk0
theorem pfigures_of_eq (n k : Nat) (hk : k < 1000000) : f_pfigures_of [.int n, .int k] = .ok (.lst ((digsB k n).map fun d : Nat => MV.int d), []) := by
  refine mFn_ok ?_
  obtain ⟨ρ', e, v, rfl⟩ := loop_nxr (g := gSet 3) (b := b_pfigures_of_0) (lo := 0) (c := 1) (n := k) (ρ := [some (.int n), some (.int k), some (.own []), none])
    (fun i ρ => ∃ v, ρ = [some (.int (n / 10 ^ i : Nat)), some (.int k), some (.own ((digs i n).map fun d : Nat => MV.int d)), v]) ⟨none, by simp [digs]⟩ (by
      rintro i ρ hi ⟨v, rfl⟩
      have hz : (digs i n).length < sizeLine := by rw [sizeLine_eq, digs_len]; omega
      have h1 : ((n / 10 ^ i : Nat) : Int).fmod 10 = ((n / 10 ^ i % 10 : Nat) : Int) := nat_fmod _ 10
      have h2 : ((n / 10 ^ i : Nat) : Int).fdiv 10 = ((n / 10 ^ (i + 1) : Nat) : Int) := by rw [Nat.pow_succ, ← Nat.div_div_eq_div_mul]; exact nat_fdiv _ 10
      generalize hq : n / 10 ^ i = q at h1 h2
      generalize hq2 : n / 10 ^ (i + 1) = q2 at h2
      have h3 : digs (i + 1) n = digs i n ++ [q % 10] := by rw [digs_append, hq]
      simp [b_pfigures_of_0, hz, divOk, h1, h2, h3])
  simp [m_pfigures_of, szOk_small, inR_of (i := (k : Int)) (by omega) (by omega), e, digsB]
def Form (kd : Str) (n : Nat) (sg : Str) (p : MV) : MV := .tup [.str kd, .int n, .str sg, p]
def least (n : Nat) (sg : Str) : Int := if sg = "none" then 0 else if sg = "end" then 1 - 10 ^ n else -5 * 10 ^ (n - 1)
def most (n : Nat) (sg : Str) : Int := if sg = "tens" then 5 * 10 ^ (n - 1) - 1 else 10 ^ n - 1
theorem sg_ne1 : ¬ (("end" : Str) = "none") := by decide
theorem sg_ne2 : ¬ (("tens" : Str) = "none") := by decide
theorem sg_ne3 : ¬ (("tens" : Str) = "end") := by decide
theorem sg_ne5 : ¬ (("end" : Str) = "tens") := by decide
section
variable {kd sg : Str} {n : Nat} {p : MV}
theorem at1 {a b c d : MV} : atI [a, b, c, d] 1 = some b := rfl
theorem at2 {a b c d : MV} : atI [a, b, c, d] 2 = some c := rfl
theorem pleast_eq (hn : 1 ≤ n) (h : n < 100) : f_pleast_of [Form kd n sg p] = .ok (.int (least n sg), []) := by
  refine mFn_ok ?_
  by_cases h1 : sg = "none"
  · simp [m_pleast_of, Form, at2, h1, least]
  · by_cases h2 : sg = "end"
    · simp [m_pleast_of, Form, at2, at1, h2, least, sg_ne1, pten_eq (k := n) (by omega) (by omega)]
    · have e : ((n : Int) - 1).toNat = n - 1 := by omega
      simp [m_pleast_of, Form, at2, at1, h1, h2, least, pten_eq (k := (n : Int) - 1) (by omega) (by omega), e, mulOk_l]
theorem pmost_eq (hn : 1 ≤ n) (h : n < 100) : f_pmost_of [Form kd n sg p] = .ok (.int (most n sg), []) := by
  refine mFn_ok ?_
  by_cases h2 : sg = "tens"
  · have e : ((n : Int) - 1).toNat = n - 1 := by omega
    simp [m_pmost_of, Form, at2, at1, h2, most, pten_eq (k := (n : Int) - 1) (by omega) (by omega), e, mulOk_l]
  · simp [m_pmost_of, Form, at2, at1, h2, most, pten_eq (k := n) (by omega) (by omega)]
theorem ten_pos (n : Nat) : (0 : Int) < 10 ^ n := Int.pow_pos (by decide)
end
def pairUp : List Nat → List Nat
  | a :: b :: r => (16 * a + b) :: pairUp r
  | _ => []
theorem pairUp_get : ∀ (q : Nat) (h : List Nat), h.length = 2 * q → pairUp h = (List.range q).map fun i => 16 * h.getD (2 * i) 0 + h.getD (2 * i + 1) 0
  | 0, h, e => by
    have : h = [] := List.length_eq_zero_iff.mp (by omega)
    subst this; rfl
  | q + 1, [], e => by simp at e
  | q + 1, [a], e => by simp at e; omega
  | q + 1, a :: b :: r, e => by
    rw [List.range_succ_eq_map, List.map_cons, List.map_map]
    show _ :: pairUp r = _
    rw [pairUp_get q r (by simp at e; omega)]
    congr 1
theorem rg_two (q : Nat) (hq : q < 1000000) : rgOk 0 (2 * q : Nat) 2 = true ∧ (Builtin.Range.rangeSize 0 (2 * q : Nat) 2).toNat = q := by
  have e : Builtin.Range.rangeSize 0 (2 * q : Nat) 2 = q := by
    unfold Builtin.Range.rangeSize
    rw [if_pos (by decide)]
    split <;> omega
  refine ⟨?_, by rw [e]; rfl⟩
  unfold rgOk
  rw [e]
  have e1 : Builtin.Range.small 0 (2 * q : Nat) 2 = true := by
    unfold Builtin.Range.small
    rw [e]
    simp [Builtin.Range.rangeFitsLong]
    omega
  rw [e1]
  simp
theorem pairs_comp {ρ : Env} {s v : Nat} {h : List Nat} {q : Nat} {a : MA} (hq : q < 1000000) (hl : h.length = 2 * q) (ha : (mR3 a) ρ = .ok (rngM 0 2 q, ρ)) (hs : ρ[s]? = some (some (.lst (h.map fun d : Nat => MV.int d)))) (hv : ρ[v]? = some none) (hsv : s ≠ v) :
    mLcO (mR3 a) (.nm v) (mYes) (mOp fAdd (mOp fMul (mC (.int 16)) (mOp fIx (mVar s) (mVar v))) (mOp fIx (mVar s) (mOp fAdd (mVar v) (mC (.int 1))))) [v] ρ = .ok (.own ((pairUp h).map fun d : Nat => MV.int d), ρ) := by
  rw [pairUp_get q h hl]
  have e : ((List.range q).map fun i => 16 * h.getD (2 * i) 0 + h.getD (2 * i + 1) 0).map (fun d : Nat => MV.int d) = (rngM 0 2 q).map fun x => match x with | .int k => MV.int ((16 * h.getD k.toNat 0 + h.getD (k.toNat + 1) 0 : Nat) : Int) | _ => .non := by
    unfold rngM
    rw [List.map_map, List.map_map]
    refine List.map_congr_left fun i _ => ?_
    show MV.int _ = MV.int _
    have z : (0 + (i : Int) * 2).toNat = 2 * i := by omega
    rw [z]
  rw [e]
  have lv : v < ρ.length := by
    by_cases z : v < ρ.length
    · exact z
    · rw [List.getElem?_eq_none (by omega)] at hv; cases hv
  refine mLcO_map _ ha (by simp [perAt, hv]) ?_ (by rw [rngM_len, sizeLine_eq]; omega)
  intro x hx
  obtain ⟨i, hi, rfl⟩ : ∃ i, i < q ∧ MV.int (0 + (i : Int) * 2) = x := by simpa [rngM] using hx
  have w : wipeM ρ [v] = ρ := by
    show ρ.set v none = ρ
    apply List.ext_getElem?
    intro j
    by_cases e : v = j
    · subst e; rw [List.getElem?_set_self lv, hv]
    · rw [List.getElem?_set_ne e]
  rw [w]
  refine ⟨ρ.set v (some (.int (0 + (i : Int) * 2))), by simp [setT, lv], ?_, ?_, by simp⟩
  · generalize hk : (0 + (i : Int) * 2) = k
    have g1 : (ρ.set v (some (MV.int k)))[s]? = some (some (.lst (h.map fun d : Nat => MV.int d))) := by rw [List.getElem?_set_ne (Ne.symm hsv)]; exact hs
    have g2 : (ρ.set v (some (MV.int k)))[v]? = some (some (MV.int k)) := List.getElem?_set_self lv
    generalize ρ.set v (some (MV.int k)) = ρ1 at g1 g2
    have z : k.toNat = 2 * i := by omega
    have a1 : atI (h.map fun d : Nat => MV.int d) k = some (.int (h.getD (2 * i) 0)) := by
      rw [atI_ge (by omega), z]
      simp [show 2 * i < h.length by omega]
    have a2 : atI (h.map fun d : Nat => MV.int d) (k + 1) = some (.int (h.getD (2 * i + 1) 0)) := by
      rw [atI_ge (by omega), show (k + 1).toNat = 2 * i + 1 by omega]
      simp [show 2 * i + 1 < h.length by omega]
    show _ = Res.ok (MV.int ((16 * h.getD k.toNat 0 + h.getD (k.toNat + 1) 0 : Nat) : Int), ρ1)
    rw [z]
    generalize h.getD (2 * i) 0 = p1 at *
    generalize h.getD (2 * i + 1) 0 = p2 at *
    cases ρ1 with
    | nil => simp at g1
    | cons r ρ1 => simp [g1, g2, a1, a2, mulOk_l]
  · show (ρ.set v _).set v none = ρ
    rw [List.set_set]
    exact w
def sizeM (n : Nat) (sg : Str) (x : Int) : Nat := if sg = "tens" then (x.fmod (10 ^ n)).natAbs else x.natAbs
def halfM (x : Int) : Nat := if x < 0 then 13 else 12
def inter (zs fs : List Nat) : List Nat := (List.zipWith (fun z f => [z, f]) zs fs).flatten
def zonesM (n : Nat) (sg : Str) (x : Int) : List Nat := if sg = "end" then (List.replicate n 15).set (n - 1) (halfM x) else List.replicate n 15
def manyM (n : Nat) (sg : Str) : Nat := n + if sg = "end" then 1 else 0
def packM (n : Nat) (sg : Str) (x : Int) : List Nat := List.replicate (manyM n sg % 2) 0 ++ digsB n (sizeM n sg x) ++ if sg = "end" then [halfM x] else []
def rowM (kd sg : Str) (n : Nat) (x : Int) : List Nat := if kd = "packed" then pairUp (packM n sg x) else List.zipWith (fun z f => 16 * z + f) (zonesM n sg x) (digsB n (sizeM n sg x))
theorem inter_len : ∀ (zs fs : List Nat), zs.length = fs.length → (inter zs fs).length = 2 * fs.length
  | [], [], _ => rfl
  | z :: zs, f :: fs, h => by
    show ([z, f] ++ inter zs fs).length = _
    rw [List.length_append, inter_len zs fs (by simpa using h)]
    simp; omega
  | [], _ :: _, h => by simp at h
  | _ :: _, [], h => by simp at h
theorem inter_pair : ∀ (zs fs : List Nat), zs.length = fs.length → pairUp (inter zs fs) = List.zipWith (fun z f => 16 * z + f) zs fs
  | [], [], _ => rfl
  | z :: zs, f :: fs, h => by
    show (16 * z + f) :: pairUp (inter zs fs) = _
    rw [inter_pair zs fs (by simpa using h)]
    rfl
  | [], _ :: _, h => by simp at h
  | _ :: _, [], h => by simp at h
theorem inter_set : ∀ (zs fs : List Nat) (k v : Nat), zs.length = fs.length → k < zs.length → (inter zs fs).set (2 * k) v = inter (zs.set k v) fs
  | [], [], k, v, _, hk => by simp at hk
  | z :: zs, f :: fs, 0, v, _, _ => rfl
  | z :: zs, f :: fs, k + 1, v, h, hk => by
    show (z :: f :: inter zs fs).set (2 * (k + 1)) v = z :: f :: inter (zs.set k v) fs
    rw [show 2 * (k + 1) = 2 * k + 1 + 1 by omega, List.set_cons_succ, List.set_cons_succ, inter_set zs fs k v (by simpa using h) (by simpa using hk)]
  | [], _ :: _, _, _, h, _ => by simp at h
  | _ :: _, [], _, _, h, _ => by simp at h
theorem inter_15 : ∀ fs : List Nat, inter (List.replicate fs.length 15) fs = (fs.map fun f => [15, f]).flatten
  | [] => rfl
  | f :: fs => by
    show 15 :: f :: inter (List.replicate fs.length 15) fs = _
    rw [inter_15 fs]; rfl
theorem many_even (m : Nat) : m % 2 + m = 2 * ((m + 1) / 2) := by omega
theorem pack_len (n : Nat) (sg : Str) (x : Int) : (packM n sg x).length = 2 * ((manyM n sg + 1) / 2) := by
  rw [← many_even]
  unfold packM
  by_cases h : sg = "end"
  · simp [h, manyM, digsB_len]
  · simp [h, manyM, digsB_len]
theorem zones_len (n : Nat) (sg : Str) (x : Int) : (zonesM n sg x).length = n := by
  unfold zonesM; split <;> simp
theorem psign_half_eq (x : Int) : f_psign_half [.int x] = .ok (.int (halfM x), []) := by
  refine mFn_ok ?_
  by_cases h : x < 0
  · simp [m_psign_half, halfM, h]
  · simp [m_psign_half, halfM, h]
section
variable {kd sg : Str} {n : Nat} {p : MV}
theorem phalves_of_eq : f_phalves_of [Form kd n sg p] = .ok (.tup [.int (manyM n sg + manyM n sg % 2 : Nat), .int (manyM n sg % 2 : Nat)], []) := by
  refine mFn_ok ?_
  have e : ((manyM n sg : Nat) : Int).fmod 2 = (manyM n sg % 2 : Nat) := nat_fmod _ 2
  unfold Form
  by_cases h : sg = "end"
  · have z : (n : Int) + 1 = (manyM n sg : Nat) := by simp [manyM, h]
    subst h
    simp [m_phalves_of, z, e, szOk_small]
  · have z : (n : Int) + 0 = (manyM n sg : Nat) := by simp [manyM, h]
    have z' : (n : Int) = (manyM n sg : Nat) := by simp [manyM, h]
    simp [m_phalves_of, h, szOk_small]
    rw [z', e]
    simp
theorem abs_nat (x : Int) : (if x < 0 then -x else x) = (x.natAbs : Int) := by split <;> omega
theorem pk_loop (fs : List Nat) (hf : fs.length < 1000) (a b c d e : Option MV) : ∃ d', mLoop (gSet 4) b_pkept_halves_0 (fs.map fun d : Nat => MV.int d) [a, b, c, some (.own []), d, e] = .ok (.nx, [a, b, c, some (.own (((fs.map fun f => [15, f]).flatten).map fun d : Nat => MV.int d)), d', e]) := by
  obtain ⟨⟨z', h⟩, _⟩ := loop_junk (σ := List Nat) (β := Option MV) (g := gSet 4) (b := b_pkept_halves_0) (fun s z => [a, b, c, some (.own (s.map fun d : Nat => MV.int d)), z, e]) (fun d : Nat => MV.int d) (fun s f => s ++ [15, f]) (fun k s => s.length = 2 * k) fs [] d rfl (by
    intro i s z x hx hi hlt
    have hz : s.length + 2 ≤ sizeLine := by rw [sizeLine_eq]; omega
    refine ⟨by simp [hi]; omega, _, by simp; rfl, some (.int x), ?_⟩
    have hz' := szOk_iff.mpr hz
    simp [b_pkept_halves_0, lmExtend, szOk_small, hz, hz', isOwn])
  have e1 : ∀ (l : List Nat) (acc : List Nat), l.foldl (fun s f => s ++ [15, f]) acc = acc ++ (l.map fun f => [15, f]).flatten := by
    intro l
    induction l with
    | nil => intro acc; simp
    | cons x l ih => intro acc; rw [List.foldl_cons, ih]; simp
  rw [e1, List.nil_append] at h
  exact ⟨z', h⟩
end
section
variable {kd sg : Str} {n : Nat} {p : MV}
theorem tens_ne_end : ¬ (("tens" : Str) = "end") := by decide
theorem fig_of (x : Int) (hn : n < 100) : f_pfigures_of [.int (x.natAbs : Int), .int n] = .ok (.lst ((digsB n x.natAbs).map fun d : Nat => MV.int d), []) := pfigures_of_eq x.natAbs n (by omega)
theorem pkept_halves_packed (h1 : 1 ≤ n ∧ n < 100) (x : Int) : f_pkept_halves [Form "packed" n sg p, .int x] = .ok (.lst ((packM n sg x).map fun d : Nat => MV.int d), []) := by
  refine mFn_ok ?_
  have t1 := pten_eq (k := (n : Int)) (by omega) (by omega)
  simp at t1
  have ho := @phalves_of_eq "packed" sg n p
  have hm : manyM n sg % 2 < 2 := Nat.mod_lt _ (by decide)
  have hp := ten_pos n
  have hpz : ¬ ((10 : Int) ^ n = 0) := by omega
  unfold Form at ho
  simp at ho
  have r0 := @fMul_1 (.int 0) (manyM n sg % 2) (by omega)
  simp at r0
  have s1 : szOk (manyM n sg % 2 + n) = true := szOk_small (by omega)
  have s2 : szOk (manyM n sg % 2 + n + 1) = true := szOk_small (by omega)
  by_cases hs : sg = "tens"
  · subst hs
    have a1 := abs_nat (x.fmod (10 ^ n))
    have f1 := fig_of (n := n) (x.fmod (10 ^ n)) h1.2
    have q1 := psign_half_eq (x.fmod (10 ^ n))
    simp [m_pkept_halves, Form, t1, hpz, a1, f1, q1, ho, tens_ne_end, szOk_small, r0, s1, digsB_len, packM, sizeM]
  · have a1 := abs_nat x
    have f1 := fig_of (n := n) x h1.2
    have q1 := psign_half_eq x
    by_cases he : sg = "end"
    · subst he
      simp [m_pkept_halves, Form, hs, a1, f1, q1, ho, szOk_small, r0, s1, s2, digsB_len, packM, sizeM]
    · simp [m_pkept_halves, Form, hs, he, a1, f1, q1, ho, szOk_small, r0, s1, digsB_len, packM, sizeM]
end
section
variable {kd sg : Str} {n : Nat} {p : MV}
theorem spread_ne : ¬ (("spread" : Str) = "packed") := by decide
theorem ixN_neg2 {k : Nat} (h : 1 ≤ k) : ixN (2 * k) (-2) = some (2 * (k - 1)) := by
  unfold ixN
  rw [if_neg (by decide), if_pos (by omega)]
  congr 1
  omega
theorem map_set {α β : Type} (f : α → β) (l : List α) (k : Nat) (v : α) : (l.set k v).map f = (l.map f).set k (f v) := List.map_set ..
theorem pkept_halves_spread (h1 : 1 ≤ n ∧ n < 100) (x : Int) : f_pkept_halves [Form "spread" n sg p, .int x] = .ok (.own ((inter (zonesM n sg x) (digsB n (sizeM n sg x))).map fun d : Nat => MV.int d), []) := by
  refine mFn_ok ?_
  have t1 := pten_eq (k := (n : Int)) (by omega) (by omega)
  simp at t1
  have hp := ten_pos n
  have hpz : ¬ ((10 : Int) ^ n = 0) := by omega
  have lp : ∀ m : Nat, ∀ a b c d e : Option MV, ∃ d', mLoop (gSet 4) b_pkept_halves_0 ((digsB n m).map fun d : Nat => MV.int d) [a, b, c, some (.own []), d, e] = .ok (.nx, [a, b, c, some (.own ((inter (List.replicate n 15) (digsB n m)).map fun d : Nat => MV.int d)), d', e]) := by
    intro m a b c d e
    have := pk_loop (digsB n m) (by rw [digsB_len]; omega) a b c d e
    rw [← inter_15, digsB_len] at this
    exact this
  have il : ∀ m : Nat, (inter (List.replicate n 15) (digsB n m)).length = 2 * n := fun m => by rw [inter_len _ _ (by simp [digsB_len]), digsB_len]
  by_cases hs : sg = "tens"
  · subst hs
    have a1 := abs_nat (x.fmod (10 ^ n))
    have f1 := fig_of (n := n) (x.fmod (10 ^ n)) h1.2
    obtain ⟨d', l1⟩ := lp (x.fmod (10 ^ n)).natAbs (some (Form "spread" n "tens" p)) (some (.int (x.fmod (10 ^ n)))) (some (.lst ((digsB n (x.fmod (10 ^ n)).natAbs).map fun d : Nat => MV.int d))) none none
    unfold Form at l1
    simp [m_pkept_halves, Form, t1, hpz, a1, f1, tens_ne_end, szOk_small, spread_ne, l1, zonesM, sizeM]
  · have a1 := abs_nat x
    have f1 := fig_of (n := n) x h1.2
    have q1 := psign_half_eq x
    obtain ⟨d', l1⟩ := lp x.natAbs (some (Form "spread" n sg p)) (some (.int x)) (some (.lst ((digsB n x.natAbs).map fun d : Nat => MV.int d))) none none
    unfold Form at l1
    by_cases he : sg = "end"
    · subst he
      have z1 := ixN_neg2 h1.1
      have z2 := inter_set (List.replicate n 15) (digsB n x.natAbs) (n - 1) (halfM x) (by simp [digsB_len]) (by simp; omega)
      have z3 : ∀ ρ : Env, ρ[3]? = some (some (.own ((inter (List.replicate n 15) (digsB n x.natAbs)).map fun d : Nat => MV.int d))) → setIxM 3 (.int (halfM x : Nat)) (.int (-2)) ρ = .ok (.nx, ρ.set 3 (some (.own ((inter ((List.replicate n 15).set (n - 1) (halfM x)) (digsB n x.natAbs)).map fun d : Nat => MV.int d)))) := fun ρ h => by
        rw [setIxM_o h (j := 2 * (n - 1)) (by rw [List.length_map, il]; exact z1), ← z2, map_set]
      simp [m_pkept_halves, Form, hs, a1, f1, q1, szOk_small, spread_ne, l1, zonesM, sizeM, z3]
    · simp [m_pkept_halves, Form, hs, he, a1, f1, szOk_small, spread_ne, l1, zonesM, sizeM]
theorem pfits_eq (h1 : 1 ≤ n ∧ n < 100) (x : Int) : f_pfits [Form kd n sg p, .int x] = .ok (.bl (decide (least n sg ≤ x) && decide (x ≤ most n sg)), []) := by
  refine mFn_ok ?_
  have a := @pleast_eq kd sg n p h1.1 h1.2
  have b := @pmost_eq kd sg n p h1.1 h1.2
  unfold Form at a b
  by_cases c : least n sg ≤ x
  · simp [m_pfits, Form, a, b, c]
  · simp [m_pfits, Form, a, b, c]
end
section
variable {kd sg : Str} {n : Nat} {p : MV}
def halvesM (kd sg : Str) (n : Nat) (x : Int) : List Nat := if kd = "packed" then packM n sg x else inter (zonesM n sg x) (digsB n (sizeM n sg x))
def roomM (kd sg : Str) (n : Nat) : Nat := if kd = "packed" then (manyM n sg + 1) / 2 else n
theorem halves_len (x : Int) : (halvesM kd sg n x).length = 2 * roomM kd sg n := by
  unfold halvesM roomM
  split
  · exact pack_len n sg x
  · rw [inter_len _ _ (by rw [zones_len, digsB_len]), digsB_len]
theorem row_pair (x : Int) : pairUp (halvesM kd sg n x) = rowM kd sg n x := by
  unfold halvesM rowM
  split
  · rfl
  · rw [inter_pair _ _ (by rw [zones_len, digsB_len])]
theorem room_small (h : n < 100) : roomM kd sg n < 1000 := by
  unfold roomM manyM
  split <;> (try split) <;> omega
theorem pkept_eq (hk : kd = "packed" ∨ kd = "spread") (h1 : 1 ≤ n ∧ n < 100) (x : Int) (hf : least n sg ≤ x ∧ x ≤ most n sg) : f_pkept [Form kd n sg p, .int x] = .ok (.tup ((rowM kd sg n x).map fun d : Nat => MV.int d), []) := by
  refine mFn_ok ?_
  have a := @pfits_eq kd sg n p h1 x
  have hl := @halves_len kd sg n x
  have hr := @room_small kd sg n h1.2
  have g := rg_two (roomM kd sg n) (by omega)
  have c := pairs_comp (ρ := [some (Form kd n sg p), some (.int x), some (.lst ((halvesM kd sg n x).map fun d : Nat => MV.int d)), none]) (s := 2) (v := 3) (h := halvesM kd sg n x) (q := roomM kd sg n) (a := mCons (mC (.int 0)) (mCons (mBlt bLen (mCons (mVar 2) (mNil))) (mCons (mC (.int 2)) (mNil)))) (by omega) hl (by
    have g1 := g.1
    have g2 := g.2
    simp at g1 g2
    simp [hl, g1, g2]) rfl rfl (by decide)
  rw [row_pair] at c
  have fz1 : ∃ V, fz V = some (.lst ((halvesM kd sg n x).map fun d : Nat => MV.int d)) ∧ f_pkept_halves [Form kd n sg p, .int x] = .ok (V, []) := by
    rcases hk with rfl | rfl
    · exact ⟨_, by simp [halvesM], pkept_halves_packed h1 x⟩
    · exact ⟨_, by simp [halvesM, spread_ne], pkept_halves_spread h1 x⟩
  obtain ⟨V, v1, v2⟩ := fz1
  unfold Form at a c v2
  simp [m_pkept, Form, a, hf.1, hf.2, v1, v2, c]
end
def interG {α : Type} (zs fs : List α) : List α := (List.zipWith (fun z f => [z, f]) zs fs).flatten
theorem interG_cons {α : Type} (z f : α) (zs fs : List α) : interG (z :: zs) (f :: fs) = z :: f :: interG zs fs := rfl
def zoneD (n : Nat) (sg : Str) : List Str := if sg = "end" then (List.replicate n ("zone" : Str)).set (n - 1) "sign" else List.replicate n "zone"
def dutiesM (kd sg : Str) (n : Nat) : List Str := if kd = "packed" then List.replicate (manyM n sg % 2) ("ahead" : Str) ++ List.replicate n ("figure" : Str) ++ (if sg = "end" then [("sign" : Str)] else []) else interG (zoneD n sg) (List.replicate n ("figure" : Str))
theorem zoneD_len (n : Nat) (sg : Str) : (zoneD n sg).length = n := by unfold zoneD; split <;> simp
def signAt (due : List Str) : Nat := (due.findIdx? fun s : Str => decide (s = "sign")).getD 0
def packH (n : Nat) (sg : Str) (x : Int) (h : Nat) : List Nat := List.replicate (manyM n sg % 2) 0 ++ digsB n (sizeM n sg x) ++ if sg = "end" then [h] else []
def zonesH (n : Nat) (sg : Str) (h : Nat) : List Nat := if sg = "end" then (List.replicate n 15).set (n - 1) h else List.replicate n 15
def halvesH (kd sg : Str) (n : Nat) (x : Int) (h : Nat) : List Nat := if kd = "packed" then packH n sg x h else inter (zonesH n sg h) (digsB n (sizeM n sg x))
theorem zonesH_len (n : Nat) (sg : Str) (h : Nat) : (zonesH n sg h).length = n := by
  unfold zonesH; split <;> simp
theorem sign_uniq {due : List Str} {j : Nat} (hj : due[j]? = some ("sign" : Str)) (h : ∀ i, i < j → due[i]? ≠ some ("sign" : Str)) : signAt due = j := by
  unfold signAt
  have : due.findIdx? (fun s : Str => decide (s = "sign")) = some j := by
    rw [List.findIdx?_eq_some_iff_getElem]
    obtain ⟨h1, h2⟩ := List.getElem?_eq_some_iff.mp hj
    refine ⟨h1, by simpa using h2, fun i hi => ?_⟩
    have := h i hi
    rw [List.getElem?_eq_getElem (by omega)] at this
    simpa using this
  rw [this]; rfl
theorem interG_get {α : Type} : ∀ (zs fs : List α) (i : Nat), zs.length = fs.length → (interG zs fs)[2 * i]? = zs[i]? ∧ (interG zs fs)[2 * i + 1]? = fs[i]?
  | [], [], i, _ => by simp [interG]
  | z :: zs, f :: fs, 0, _ => by rw [interG_cons]; simp
  | z :: zs, f :: fs, i + 1, h => by
    obtain ⟨a, b⟩ := interG_get zs fs i (by simpa using h)
    rw [interG_cons, show 2 * (i + 1) = 2 * i + 1 + 1 by omega]
    simp [a, b]
  | [], _ :: _, _, h => by simp at h
  | _ :: _, [], _, h => by simp at h
theorem sign_half {kd : Str} {n : Nat} (x : Int) (h : Nat) (hk : kd = "packed" ∨ kd = "spread") (hn : 1 ≤ n) : (halvesH kd "end" n x h).getD (signAt (dutiesM kd "end" n)) 0 = h := by
  rcases hk with rfl | rfl
  · have e : signAt (dutiesM "packed" "end" n) = manyM n "end" % 2 + n := by
      refine sign_uniq ?_ fun i hi => ?_
      · unfold dutiesM
        rw [if_pos rfl, if_pos rfl, List.getElem?_append_right (by simp)]
        simp
      · unfold dutiesM
        rw [if_pos rfl, if_pos rfl, List.getElem?_append_left (by simp; omega)]
        intro z
        have := List.mem_of_getElem? z
        rcases List.mem_append.mp this with m | m
        · have := List.eq_of_mem_replicate m; exact absurd this (by decide)
        · have := List.eq_of_mem_replicate m; exact absurd this (by decide)
    rw [e]
    unfold halvesH packH
    rw [if_pos rfl, if_pos rfl, List.getD_eq_getElem?_getD, List.getElem?_append_right (by simp [digsB_len])]
    simp [digsB_len]
  · have e : signAt (dutiesM "spread" "end" n) = 2 * (n - 1) := by
      have hl : (zoneD n "end").length = (List.replicate n ("figure" : Str)).length := by rw [zoneD_len, List.length_replicate]
      refine sign_uniq ?_ fun i hi => ?_
      · unfold dutiesM
        rw [if_neg spread_ne, (interG_get _ _ _ hl).1]
        unfold zoneD
        rw [if_pos rfl, List.getElem?_set_self (by simp; omega)]
      · unfold dutiesM
        rw [if_neg spread_ne]
        rcases Nat.mod_two_eq_zero_or_one i with e | e
        · have e2 : i = 2 * (i / 2) := by omega
          rw [e2, (interG_get _ _ _ hl).1]
          unfold zoneD
          rw [if_pos rfl, List.getElem?_set_ne (by omega)]
          intro z
          have := List.eq_of_mem_replicate (List.mem_of_getElem? z)
          exact absurd this (by decide)
        · have e2 : i = 2 * (i / 2) + 1 := by omega
          rw [e2, (interG_get _ _ _ hl).2]
          intro z
          have := List.eq_of_mem_replicate (List.mem_of_getElem? z)
          exact absurd this (by decide)
    rw [e]
    unfold halvesH
    rw [if_neg spread_ne, List.getD_eq_getElem?_getD, show inter = interG from rfl, (interG_get _ _ _ (by rw [zonesH_len, digsB_len])).1]
    unfold zonesH
    rw [if_pos rfl, List.getElem?_set_self (by simp; omega)]
    rfl
theorem ixN_at {k : Nat} {i : Int} (h : 0 ≤ i ∧ i < k) : ixN k i = some i.toNat := by
  unfold ixN
  rw [if_pos (by omega), if_pos (by omega)]
def fB (fr : Nat) (ws : List Str) (rs : List MV) (tab : Str → MV) : List (Str × MV) := [("rows", .own rs), ("tables", .own (ws.map tab)), ("worths", .own (ws.map MV.fnc)), ("free", .int fr)]
def Bo (fr : Nat) (ws : List Str) (rs : List MV) (tab : Str → MV) : MV := .obj "Builder" (fB fr ws rs tab)
section
variable {fr : Nat} {ws : List Str} {rs : List MV} {tab : Str → MV} {ρ : Env} {r x y z : Option MV}
@[simp] theorem Bo_held : (Bo fr ws rs tab).held = true := nr rfl
@[simp] theorem Bo_fold : MV.obj (Str.ofString "Builder") (fB fr ws rs tab) = Bo fr ws rs tab := nr rfl
@[simp] theorem lk_rows : (fB fr ws rs tab).lookup (Str.ofString "rows") = some (.own rs) := nr rfl
@[simp] theorem lk_tables : (fB fr ws rs tab).lookup (Str.ofString "tables") = some (.own (ws.map tab)) := nr rfl
@[simp] theorem lk_worths : (fB fr ws rs tab).lookup (Str.ofString "worths") = some (.own (ws.map MV.fnc)) := nr rfl
@[simp] theorem lk_free : (fB fr ws rs tab).lookup (Str.ofString "free") = some (.int fr) := nr rfl
@[simp] theorem lk_cell : (fB fr ws rs tab).lookup (Str.ofString "cell") = none := nr rfl
@[simp] theorem lk_put : (fB fr ws rs tab).lookup (Str.ofString "put") = none := nr rfl
@[simp] theorem lk_row : (fB fr ws rs tab).lookup (Str.ofString "row") = none := nr rfl
@[simp] theorem lk_look : (fB fr ws rs tab).lookup (Str.ofString "look") = none := nr rfl
@[simp] theorem lk_copied : (fB fr ws rs tab).lookup (Str.ofString "copied") = none := nr rfl
@[simp] theorem lk_looked : (fB fr ws rs tab).lookup (Str.ofString "looked") = none := nr rfl
@[simp] theorem lk_ended : (fB fr ws rs tab).lookup (Str.ofString "ended") = none := nr rfl
@[simp] theorem lk_program : (fB fr ws rs tab).lookup (Str.ofString "program") = none := nr rfl
@[simp] theorem lk_back_to : (fB fr ws rs tab).lookup (Str.ofString "back_to") = none := nr rfl
@[simp] theorem put_rows {zs : List MV} : putM (Str.ofString "rows") (.own zs) (fB fr ws rs tab) = fB fr ws zs tab := nr rfl
@[simp] theorem put_free {k : Nat} : putM (Str.ofString "free") (.int k) (fB fr ws rs tab) = fB k ws rs tab := nr rfl
@[simp] theorem put_free1 : putM (Str.ofString "free") (.int ((fr : Int) + 1)) (fB fr ws rs tab) = fB (fr + 1) ws rs tab := nr rfl
@[simp] theorem fB_len : (fB fr ws rs tab).length = 4 := nr rfl
def lkW (ws : List Str) (w : Str) : List Str := if w ∈ ws then ws else ws ++ [w]
def lkI (ws : List Str) (w : Str) : Nat := (lkW ws w).findIdx fun z => decide (z = w)
end
def w01 (p : Bool) : Nat := if p then 1 else 0
def wtab : List (Str × (Nat → Nat)) := [
  ("sign_below", fun b => w01 (decide (b % 16 = 11 ∨ b % 16 = 13))),
  ("five_on", fun b => w01 (decide (4 < b))),
  ("ten_or_none", fun b => 10 * w01 (decide (0 < b))),
  ("nine_less", fun b => if 9 < b ∧ b < 20 then 19 - b else b),
  ("ahead_of_last", fun b => b / 10),
  ("last_figure", fun b => b % 10),
  ("high_half", fun b => b / 16),
  ("low_half", fun b => b % 16),
  ("one_or_none", fun b => w01 (decide (0 < b))),
  ("half_up", fun b => b % 16 * 16),
  ("one_of_two", fun b => w01 (decide (b % 4 = 1 ∨ b % 4 = 2))),
  ("not_all", fun b => w01 (decide (b < 255))),
  ("none_or_all", fun b => 255 * w01 (decide (b = 0))),
  ("lacking", fun b => (9 + 10 * 26 - b) % 10),
  ("fill", fun b => 255 * (1 - b / 128)),
  ("top_two", fun b => b / 128),
  ("other_twos", fun b => 255 - b),
  ("ten_low", fun b => 10 * b % 256),
  ("ten_high", fun b => 10 * b / 256),
  ("six_on", fun b => w01 (decide (5 < b))),
  ("product_byte", fun b => b / 16 * (b % 16)),
  ("order_byte", fun b => if b % 4 = 0 then 1 else if b % 4 = 1 then 2 else if b % 4 = 2 then 1 else 0),
  ("one_of_none", fun b => w01 (decide (b = 0))),
  ("lowest_two", fun b => b % 2),
  ("all_or_none", fun b => 255 * w01 (decide (0 < b)))]
def worthV (w : Str) (b : Nat) : Nat := match wtab.lookup w with | some g => g b | none => 0
def tabW (w : Str) : MV := .tup ((List.range 256).map fun b => .int (worthV w b))
inductive Rw where
  | put (a v : Nat) | copy (a b : Nat) | look (a k : Nat) | add (a b : Nat) | addc (a b : Nat) | and_ (a b : Nat) | or_ (a b : Nat) | left (a : Nat) | right (a : Nat) | mark (v : Nat)
def enR : Rw → MV
  | .put a v => .tup [.str "put", .int a, .int v]
  | .copy a b => .tup [.str "copy", .int a, .int b]
  | .look a k => .tup [.str "look", .int a, .int k]
  | .add a b => .tup [.str "add", .int a, .int b]
  | .addc a b => .tup [.str "addc", .int a, .int b]
  | .and_ a b => .tup [.str "and", .int a, .int b]
  | .or_ a b => .tup [.str "or", .int a, .int b]
  | .left a => .tup [.str "left", .int a]
  | .right a => .tup [.str "right", .int a]
  | .mark v => .tup [.str "mark", .int v]
def cg (c : List Nat) (i : Nat) : Nat := c.getD i 0
def stepL (tb : Nat → Nat → Nat) : Rw → List Nat × Nat → List Nat × Nat
  | .put a v, s => (s.1.set a v, s.2)
  | .copy a b, s => (s.1.set a (cg s.1 b), s.2)
  | .look a k, s => (s.1.set a (tb k (cg s.1 a)), s.2)
  | .add a b, s => (s.1.set a ((cg s.1 a + cg s.1 b) % 256), (cg s.1 a + cg s.1 b) / 256)
  | .addc a b, s => (s.1.set a ((cg s.1 a + cg s.1 b + s.2) % 256), (cg s.1 a + cg s.1 b + s.2) / 256)
  | .and_ a b, s => (s.1.set a (cg s.1 a &&& cg s.1 b), s.2)
  | .or_ a b, s => (s.1.set a (cg s.1 a ||| cg s.1 b), s.2)
  | .left a, s => (s.1.set a ((2 * cg s.1 a + s.2) % 256), (2 * cg s.1 a + s.2) / 256)
  | .right a, s => (s.1.set a ((cg s.1 a + 256 * s.2) / 2), (cg s.1 a + 256 * s.2) % 2)
  | .mark v, s => (s.1, v)
def runL (tb : Nat → Nat → Nat) (rs : List Rw) (s : List Nat × Nat) : List Nat × Nat := rs.foldl (fun s r => stepL tb r s) s
def encC (c : List Nat) : List MV := c.map fun d : Nat => MV.int d
theorem encC_at {c : List Nat} {i : Nat} (h : i < c.length) : atI (encC c) (i : Int) = some (.int (cg c i : Nat)) := by
  rw [atI_ge (by omega)]
  simp [encC, cg, h]
theorem encC_set {ρ : Env} {c : List Nat} {i v : Nat} (h : ρ[1]? = some (some (.own (encC c)))) (hi : i < c.length) : setIxM 1 (.int v) (.int i) ρ = .ok (.nx, ρ.set 1 (some (.own (encC (c.set i v))))) := by
  rw [setIxM_o h (j := i) (by unfold encC; rw [List.length_map]; exact (ixN_at (k := c.length) (i := (i : Int)) ⟨by omega, by omega⟩).trans (by simp))]
  unfold encC
  rw [List.map_set]
def TabsAre (tb : Nat → Nat → Nat) (nt : Nat) (tabs : List MV) : Prop := ∀ k, k < nt → atI tabs (k : Int) = some (.tup ((List.range 256).map fun b => .int (tb k b)))
theorem tab_at {g : Nat → Nat} {v : Nat} (h : v < 256) : atI ((List.range 256).map fun b => MV.int (g b)) (v : Int) = some (.int (g v)) := by
  rw [atI_ge (by omega)]
  simp [h]
theorem bitAnd_n (a b : Nat) : Builtin.bitAnd (a : Int) (b : Int) = ((a &&& b : Nat) : Int) := by
  unfold Builtin.bitAnd
  rw [decide_eq_true (by omega), decide_eq_true (by omega)]
  simp
theorem bitOr_n (a b : Nat) : Builtin.bitOr (a : Int) (b : Int) = ((a ||| b : Nat) : Int) := by
  rw [Bits.bitOr_pp (by omega) (by omega)]
  simp
theorem ixV_own {ρ : Env} {c : List Nat} {i : Nat} (h : ρ[1]? = some (some (.own (encC c)))) (hi : i < c.length) : ixV ρ 1 (.int i) = some (.int (cg c i : Nat)) := by
  unfold ixV
  rw [h]
  exact encC_at hi
def Cells (c : List Nat) : Prop := c.length = 256 ∧ ∀ i, cg c i < 256
def TabLt (tb : Nat → Nat → Nat) (nt : Nat) : Prop := ∀ k v, k < nt → v < 256 → tb k v < 256
theorem cg_set {c : List Nat} {a v i : Nat} : cg (c.set a v) i = if i = a ∧ a < c.length then v else cg c i := by
  unfold cg
  rw [List.getD_eq_getElem?_getD, List.getD_eq_getElem?_getD, List.getElem?_set]
  by_cases h : a = i
  · subst h
    by_cases h2 : a < c.length
    · simp [h2]
    · simp [h2, List.getElem?_eq_none (Nat.le_of_not_lt h2)]
  · have : ¬ (i = a) := fun e => h e.symm
    simp [h, this]
theorem Cells.set {c : List Nat} (h : Cells c) {a v : Nat} (hv : v < 256) : Cells (c.set a v) := by
  refine ⟨by rw [List.length_set]; exact h.1, fun i => ?_⟩
  rw [cg_set]
  split
  · exact hv
  · exact h.2 i
inductive Ab where
  | r (x : Rw) | lk (c : Nat) (w : Str)
def layA (s : List Str × List Rw) : Ab → List Str × List Rw
  | .r x => (s.1, s.2 ++ [x])
  | .lk c w => (lkW s.1 w, s.2 ++ [.look c (lkI s.1 w)])
def lays (as : List Ab) (s : List Str × List Rw) : List Str × List Rw := as.foldl layA s
def okAb : Ab → Bool
  | .r _ => true
  | .lk _ w => fnNames.contains w
def Gd (s : List Str × List Rw) (k : Nat) : Prop := s.1.Nodup ∧ (∀ z ∈ s.1, z ∈ fnNames) ∧ s.2.length + k < 16777216
theorem nodup_le : ∀ {l m : List Str}, l.Nodup → (∀ z ∈ l, z ∈ m) → l.length ≤ m.length
  | [], m, _, _ => Nat.zero_le _
  | a :: l, m, h, hs => by
    obtain ⟨h1, h2⟩ := List.nodup_cons.mp h
    have ha := hs a (by simp)
    have ih := @nodup_le l (m.erase a) h2 (fun z hz => by
      have ne : z ≠ a := fun e => h1 (by rw [← e]; exact hz)
      exact (List.mem_erase_of_ne ne).mpr (hs z (List.mem_cons_of_mem _ hz)))
    rw [List.length_erase_of_mem ha] at ih
    have := List.length_pos_of_mem ha
    simp; omega
theorem Gd.len {s : List Str × List Rw} {k : Nat} (h : Gd s k) : s.1.length < 100 := by
  have h1 : s.1.length ≤ fnNames.length := nodup_le h.1 fun z hz => h.2.1 z hz
  have h2 : fnNames.length < 100 := by decide +kernel
  omega
theorem Gd.less {s : List Str × List Rw} {k j : Nat} (h : Gd s k) (hj : j ≤ k) : Gd s j := ⟨h.1, h.2.1, by have := h.2.2; omega⟩
theorem layA_len (s : List Str × List Rw) (a : Ab) : (layA s a).2.length = s.2.length + 1 := by cases a <;> simp [layA]
theorem lkW_nodup {ws : List Str} {w : Str} (h : ws.Nodup) : (lkW ws w).Nodup := by
  unfold lkW
  split
  · exact h
  · rename_i hn
    rw [List.nodup_append]
    refine ⟨h, by simp, ?_⟩
    intro a ha b hb e
    rw [List.mem_singleton.mp hb] at e
    exact hn (e ▸ ha)
theorem Gd.step {s : List Str × List Rw} {k : Nat} (h : Gd s (k + 1)) {a : Ab} (ha : okAb a = true) : Gd (layA s a) k := by
  refine ⟨?_, ?_, by rw [layA_len]; have := h.2.2; omega⟩
  · cases a with
    | r x => exact h.1
    | lk c w => exact lkW_nodup h.1
  · cases a with
    | r x => exact h.2.1
    | lk c w =>
      intro z hz
      have hw : w ∈ fnNames := List.contains_iff_mem.mp ha
      simp only [layA] at hz
      unfold lkW at hz
      split at hz
      · exact h.2.1 z hz
      · rcases List.mem_append.mp hz with hz | hz
        · exact h.2.1 z hz
        · rw [List.mem_singleton.mp hz]; exact hw
theorem Gd.lays {k : Nat} : ∀ {as : List Ab} {s : List Str × List Rw}, Gd s (as.length + k) → as.all okAb = true → Gd (lays as s) k
  | [], s, h, _ => by simpa [Tm.lays] using h
  | a :: as, s, h, ha => by
    rw [List.all_cons, Bool.and_eq_true] at ha
    have h1 : Gd (layA s a) (as.length + k) := Gd.step (h.less (by simp; omega)) ha.1
    show Gd (Tm.lays as (layA s a)) k
    exact Gd.lays h1 ha.2
def bS (fr : Nat) (s : List Str × List Rw) : MV := Bo fr s.1 (s.2.map enR) tabW
section
variable {fr : Nat} {s : List Str × List Rw} {ρ : Env} {x y z : Option MV}
@[simp] theorem bS_held : (bS fr s).held = true := nr rfl
end
theorem nm (w : Str) (h : fnNames.contains w = true) : w ∈ fnNames := List.contains_iff_mem.mp h
def cells (fr many : Nat) : List Nat := (List.range many).map (fr + ·)
theorem seq_nx {a b : MS} {ρ ρ1 : Env} {R : Res (Fl × Env)} (h : a ρ = .ok (.nx, ρ1)) (h2 : b ρ1 = R) : mSeq a b ρ = R := by
  show (a ρ).bind _ = R
  rw [h]; exact h2
def folded (n : Nat) (sg : Str) (x : Int) : Int := if sg = "none" then x.fmod (10 ^ n) else if sg = "tens" then (x + 5 * 10 ^ (n - 1)).fmod (10 ^ n) - 5 * 10 ^ (n - 1) else if x < 0 then - (-x).fmod (10 ^ n) else x.fmod (10 ^ n)
def w3 : List MV := [.str "put", .str "copy", .str "add", .str "addc", .str "and", .str "or"]
def w2 : List MV := [.str "left", .str "right"]
theorem cbE_b2 {f : MF} {x v : MV} {ys : List MV} {args : List BA} {ρ : Env} {r q y : Option MV} (h : x.held = true) (hf : fill args (r :: q :: some x :: ρ) = some ys) (hi : idxB args = []) (en : f (x :: ys) = .ok (v, [y])) : cbE f (.b 2 :: args) (r :: q :: some x :: ρ) = .ok (v, r :: q :: y :: ρ) := by
  rw [cbE_ap]
  have e : fill (.b 2 :: args) (r :: q :: some x :: ρ) = some (x :: ys) := by
    rw [fill_b, hf]
    simp [h]
  rw [e]
  show (match f (x :: ys) with | .ok (v, os) => _ | .exc e os => _ | .stuck => _) = _
  rw [en]
  rw [idxB_b, hi]
  rfl
section
variable {f : MF} {fr fr' : Nat} {s s' : List Str × List Rw} {a b c d v : MV}
theorem cd1 (en : f [bS fr s, a] = .ok (v, [some (bS fr' s')])) (r q : Option MV) (ρ : Env) : cbE f [.b 2, .v a] (r :: q :: some (bS fr s) :: ρ) = .ok (v, r :: q :: some (bS fr' s') :: ρ) := cbE_b2 rfl rfl rfl en
theorem cd2 (en : f [bS fr s, a, b] = .ok (v, [some (bS fr' s')])) (r q : Option MV) (ρ : Env) : cbE f [.b 2, .v a, .v b] (r :: q :: some (bS fr s) :: ρ) = .ok (v, r :: q :: some (bS fr' s') :: ρ) := cbE_b2 rfl rfl rfl en
theorem cd3 (en : f [bS fr s, a, b, c] = .ok (v, [some (bS fr' s')])) (r q : Option MV) (ρ : Env) : cbE f [.b 2, .v a, .v b, .v c] (r :: q :: some (bS fr s) :: ρ) = .ok (v, r :: q :: some (bS fr' s') :: ρ) := cbE_b2 rfl rfl rfl en
theorem cd4 (en : f [bS fr s, a, b, c, d] = .ok (v, [some (bS fr' s')])) (r q : Option MV) (ρ : Env) : cbE f [.b 2, .v a, .v b, .v c, .v d] (r :: q :: some (bS fr s) :: ρ) = .ok (v, r :: q :: some (bS fr' s') :: ρ) := cbE_b2 rfl rfl rfl en
end
structure Bs (L : List Str) : Prop where
  ah : ("ahead_of_last" : Str) ∈ L
  la : ("last_figure" : Str) ∈ L
  ni : ("nine_less" : Str) ∈ L
  hi : ("high_half" : Str) ∈ L
  lo : ("low_half" : Str) ∈ L
  up : ("half_up" : Str) ∈ L
  te : ("ten_or_none" : Str) ∈ L
  fi : ("five_on" : Str) ∈ L
  on : ("one_or_none" : Str) ∈ L
  be : ("sign_below" : Str) ∈ L
  tw : ("one_of_two" : Str) ∈ L
theorem ok2 {a b : Nat} (ha : a < 256) (hb : b < 256) : (decide (a < 256) && decide (b < 256)) = true := by rw [decide_eq_true ha, decide_eq_true hb]; rfl
theorem Gd.go {s : List Str × List Rw} {N : Nat} {as : List Ab} (h : Gd s N) (ok : as.all okAb = true) (k : Nat) (hl : as.length + k ≤ N) : Gd (Tm.lays as s) k := Gd.lays (h.less hl) ok
theorem seq_nxE {a b : MS} {ρ ρ1 : Env} {f : Fl} (h : a ρ = .ok (.nx, ρ1)) (h2 : ∃ ρ', b ρ1 = .ok (f, ρ')) : ∃ ρ', mSeq a b ρ = .ok (f, ρ') := by
  obtain ⟨ρ', e⟩ := h2
  exact ⟨ρ', seq_nx h e⟩
structure TwW (L : List Str) : Prop where
  al : ("all_or_none" : Str) ∈ L
  no : ("none_or_all" : Str) ∈ L
  ot : ("other_twos" : Str) ∈ L
  th : ("ten_high" : Str) ∈ L
  tl : ("ten_low" : Str) ∈ L
  fi : ("fill" : Str) ∈ L
  na : ("not_all" : Str) ∈ L
  on : ("one_or_none" : Str) ∈ L
structure Ls (L : List Str) : Prop where
  ah : ("ahead_of_last" : Str) ∈ L
  la : ("last_figure" : Str) ∈ L
  ni : ("nine_less" : Str) ∈ L
  hi : ("high_half" : Str) ∈ L
  lo : ("low_half" : Str) ∈ L
  te : ("ten_or_none" : Str) ∈ L
  fi : ("five_on" : Str) ∈ L
  be : ("sign_below" : Str) ∈ L
def partsT : List (Str × MV) := [("look", .str "ct"), ("mark", .str "m"), ("put", .str "cb"), ("copy", .str "cc"), ("add", .str "cc"), ("addc", .str "cc"), ("and", .str "cc"), ("or", .str "cc"), ("left", .str "c"), ("right", .str "c")]
theorem parts_due_eq (wd : Str) : f_pparts_due [.str wd] = .ok ((partsT.lookup wd).getD .non, []) := by
  refine mFn_ok ?_
  have e : partsT.lookup wd = ([(("look" : Str), (MV.str "ct")), ("mark", (.str "m"))].lookup wd).or ([(("put" : Str), (MV.str "cb")), ("copy", (.str "cc")), ("add", (.str "cc")), ("addc", (.str "cc")), ("and", (.str "cc")), ("or", (.str "cc")), ("left", (.str "c")), ("right", (.str "c"))].lookup wd) := List.lookup_append (l₁ := [(("look" : Str), (MV.str "ct")), ("mark", (.str "m"))])
  unfold m_pparts_due
  generalize hA : [(("look" : Str), (MV.str "ct")), ("mark", (.str "m"))] = A at *
  generalize hB : [(("put" : Str), (MV.str "cb")), ("copy", (.str "cc")), ("add", (.str "cc")), ("addc", (.str "cc")), ("and", (.str "cc")), ("or", (.str "cc")), ("left", (.str "c")), ("right", (.str "c"))] = B at *
  rw [e]
  cases hl : A.lookup wd with
  | none => simp [mKin, mKget, hl]
  | some v => simp [mKin, mKix, hl]
def bndOf (N nt : Int) (k : Str) : Int := if k = "c" then N else if k = "b" then 256 else if k = "t" then nt else 2
def kindL : List Str := ["c", "b", "t", "m"]
theorem bnd_at {N nt : Int} {k : Str} (h : k ∈ kindL) : fDix (.dct [.inr "c", .inr "b", .inr "t", .inr "m"] [.int N, .int 256, .int nt, .int 2]) (.str k) = some (.int (bndOf N nt k)) := by
  simp only [kindL, List.mem_cons, List.not_mem_nil, or_false] at h
  rcases h with rfl | rfl | rfl | rfl <;> rfl
def inB (N nt : Int) (p : Int × Str) : Bool := decide (0 ≤ p.1) && decide (p.1 < bndOf N nt p.2)
theorem bls_map {α : Type} (f : α → Bool) : ∀ l : List α, blsOf (l.map fun p => .bl (f p)) = some (l.map f)
  | [] => rfl
  | p :: l => by
    have := bls_map f l
    simp [blsOf, this]
theorem ball_map {α : Type} (f : α → Bool) (l : List α) : bAll [.lst (l.map fun p => .bl (f p))] = some (.bl (l.all f)) := by
  show (blsOf _).map _ = _
  rw [bls_map]
  simp
theorem zip_items : ∀ (xs : List Int) (ks : List Str), zipM (xs.map .int) (ks.map .str) = (xs.zip ks).map fun p => .tup [.int p.1, .str p.2]
  | [], _ => rfl
  | _ :: _, [] => rfl
  | x :: xs, k :: ks => by
    have := zip_items xs ks
    unfold zipM at *
    rw [List.map_cons, List.map_cons, List.zipWith_cons_cons, this]; rfl
theorem is_row_due {wd t : Str} {ks : List Str} (N nt : Int) (xs : List Int) (hp : partsT.lookup wd = some (.str t)) (ht : signsM t = ks.map .str) (hl : bLen [.str t] = some (.int ks.length)) (hk : ∀ k ∈ ks, k ∈ kindL) (hx : xs.length < 1000) :
    f_pis_row [.tup (.str wd :: xs.map .int), .int N, .int nt] = .ok (.bl (decide (xs.length = ks.length) && (xs.zip ks).all (inB N nt)), []) := by
  refine mFn_ok ?_
  have pd := parts_due_eq wd
  rw [hp] at pd
  simp only [Option.getD_some] at pd
  have sz : szOk (xs.length + 1) = true := szOk_small (by omega)
  by_cases hn : xs.length = ks.length
  · have lc := mLcO_map (it := mZip (mCons (mSl (mVar 0) (mPart (mC (.int 1))) (mNo)) (mCons (mVar 3) (mNil)))) (g := .tp [5, 6]) (e := mChain fLe fLt (mC (.int 0)) (mVar 5) (mOp fDix (mVar 4) (mVar 6))) (vs := [5, 6])
      (ρ := [some (.tup (.str wd :: xs.map .int)), some (.int N), some (.int nt), some (.str t), some (.dct [.inr "c", .inr "b", .inr "t", .inr "m"] [.int N, .int 256, .int nt, .int 2]), none, none])
      (ρ1 := [some (.tup (.str wd :: xs.map .int)), some (.int N), some (.int nt), some (.str t), some (.dct [.inr "c", .inr "b", .inr "t", .inr "m"] [.int N, .int 256, .int nt, .int 2]), none, none])
      (xs := (xs.zip ks).map fun p => .tup [.int p.1, .str p.2]) (fun z => match z with | .tup [.int a, .str k] => .bl (inB N nt (a, k)) | _ => .non) (by simp [cutM_from, ht, zip_items]) (by simp [perAt]) (by
        intro z hz
        obtain ⟨p, hp2, rfl⟩ := List.mem_map.mp hz
        have hb := bnd_at (N := N) (nt := nt) (hk p.2 (List.of_mem_zip hp2).2)
        generalize ([.inr "c", .inr "b", .inr "t", .inr "m"] : List Key) = DK at *
        generalize [MV.int N, .int 256, .int nt, .int 2] = DV at *
        refine ⟨_, rfl, ?_, by simp [wipeM], by simp [wipeM]⟩
        simp only [inB]
        by_cases h0 : 0 ≤ p.1
        · simp [wipeM, hb, h0]
        · simp [wipeM, hb, h0]) (by rw [sizeLine_eq, List.length_map, List.length_zip]; omega)
    rw [List.map_map] at lc
    have e2 : ((xs.zip ks).map ((fun z : MV => match z with | .tup [.int a, .str k] => MV.bl (inB N nt (a, k)) | _ => .non) ∘ fun p : Int × Str => MV.tup [.int p.1, .str p.2])) = (xs.zip ks).map fun p => MV.bl (inB N nt p) := rfl
    rw [e2] at lc
    have ba := ball_map (inB N nt) (xs.zip ks)
    have hx2 : xs.length = ks.length := hn
    have nd : List.Nodup [(.inr "c" : Key), .inr "b", .inr "t", .inr "m"] := by decide
    generalize (xs.zip ks).map (fun p => MV.bl (inB N nt p)) = L at *
    generalize (xs.zip ks).all (inB N nt) = bb at *
    generalize hX : xs.map MV.int = X at *
    have hXl : X.length = xs.length := by rw [← hX, List.length_map]
    have hne : ¬ ((X.length : Int) + 1 = 1 + (ks.length : Int)) → False := by omega
    have e3 : mDict [.inr "c", .inr "b", .inr "t", .inr "m"] (mCons (mVar 1) (mCons (mC (.int 256)) (mCons (mVar 2) (mCons (mC (.int 2)) (mNil))))) [some (.tup (.str wd :: X)), some (.int N), some (.int nt), some (.str t), none, none, none] = .ok (.dct [.inr "c", .inr "b", .inr "t", .inr "m"] [.int N, .int 256, .int nt, .int 2], [some (.tup (.str wd :: X)), some (.int N), some (.int nt), some (.str t), none, none, none]) := by
      rfl
    unfold m_pis_row
    generalize ([.inr "c", .inr "b", .inr "t", .inr "m"] : List Key) = DK at *
    generalize [MV.int N, .int 256, .int nt, .int 2] = DV at *
    have h5 : (ks.length : Int) + 1 = 1 + ks.length := by omega
    simp [pd, hXl, sz, hl, e3, hx2, h5, lc, ba]
  · generalize hX : xs.map MV.int = X at *
    have hXl : X.length = xs.length := by rw [← hX, List.length_map]
    have h2 : ¬ ((xs.length : Int) + 1 = 1 + (ks.length : Int)) := by omega
    simp [m_pis_row, pd, hXl, sz, hl, hn, h2]
def kindsT : List (Str × List Str) := [("look", ["c", "t"]), ("mark", ["m"]), ("put", ["c", "b"]), ("copy", ["c", "c"]), ("add", ["c", "c"]), ("addc", ["c", "c"]), ("and", ["c", "c"]), ("or", ["c", "c"]), ("left", ["c"]), ("right", ["c"])]
def rowOk (N nt : Int) (wd : Str) (xs : List Int) : Bool := match kindsT.lookup wd with
  | none => false
  | some ks => decide (xs.length = ks.length) && (xs.zip ks).all (inB N nt)
theorem lookup_map {α β : Type} (f : α → β) (wd : Str) : ∀ T : List (Str × α), (T.map fun p => (p.1, f p.2)).lookup wd = (T.lookup wd).map f
  | [] => rfl
  | p :: T => by
    rw [List.map_cons, List.lookup_cons, List.lookup_cons, lookup_map f wd T]
    cases wd == p.1 <;> rfl
theorem lookup_mem' {α : Type} {wd : Str} {v : α} : ∀ {T : List (Str × α)}, T.lookup wd = some v → (wd, v) ∈ T
  | [], h => by cases h
  | p :: T, h => by
    rw [List.lookup_cons] at h
    cases e : wd == p.1 with
    | true =>
      rw [e] at h
      cases h
      rw [show wd = p.1 from eq_of_beq e]
      exact List.mem_cons_self ..
    | false =>
      rw [e] at h
      exact List.mem_cons_of_mem _ (lookup_mem' h)
def joinK : List Str → MV
  | [a] => if a = "m" then .str "m" else .str "c"
  | [_, b] => if b = "t" then .str "ct" else if b = "b" then .str "cb" else .str "cc"
  | _ => .non
theorem parts_kinds : partsT = kindsT.map fun p => (p.1, joinK p.2) := rfl
theorem is_row_eq (wd : Str) (N nt : Int) (xs : List Int) (hx : xs.length < 1000) : f_pis_row [.tup (.str wd :: xs.map .int), .int N, .int nt] = .ok (.bl (rowOk N nt wd xs), []) := by
  have hp : partsT.lookup wd = (kindsT.lookup wd).map joinK := by rw [parts_kinds]; exact lookup_map joinK wd kindsT
  unfold rowOk
  cases hk : kindsT.lookup wd with
  | none =>
    rw [hk] at hp
    have pd := parts_due_eq wd
    rw [hp] at pd
    simp only [Option.map_none, Option.getD_none] at pd
    refine mFn_ok ?_
    generalize xs.map MV.int = X
    simp [m_pis_row, pd]
  | some ks =>
    rw [hk] at hp
    have hm := lookup_mem' hk
    simp only [kindsT, List.mem_cons, List.not_mem_nil, or_false, Prod.mk.injEq] at hm
    have hsome : ∃ t, joinK ks = .str t ∧ signsM t = ks.map .str ∧ bLen [.str t] = some (.int ks.length) ∧ ∀ k ∈ ks, k ∈ kindL := by
      rcases hm with ⟨_, rfl⟩ | ⟨_, rfl⟩ | ⟨_, rfl⟩ | ⟨_, rfl⟩ | ⟨_, rfl⟩ | ⟨_, rfl⟩ | ⟨_, rfl⟩ | ⟨_, rfl⟩ | ⟨_, rfl⟩ | ⟨_, rfl⟩
      · exact ⟨"ct", rfl, rfl, rfl, by decide⟩
      · exact ⟨"m", rfl, rfl, rfl, by decide⟩
      · exact ⟨"cb", rfl, rfl, rfl, by decide⟩
      · exact ⟨"cc", rfl, rfl, rfl, by decide⟩
      · exact ⟨"cc", rfl, rfl, rfl, by decide⟩
      · exact ⟨"cc", rfl, rfl, rfl, by decide⟩
      · exact ⟨"cc", rfl, rfl, rfl, by decide⟩
      · exact ⟨"cc", rfl, rfl, rfl, by decide⟩
      · exact ⟨"c", rfl, rfl, rfl, by decide⟩
      · exact ⟨"c", rfl, rfl, rfl, by decide⟩
    obtain ⟨t, h1, h2, h3, h4⟩ := hsome
    rw [Option.map_some, h1] at hp
    exact is_row_due N nt xs hp h2 h3 h4 hx
def tabOk (t : List Int) : Bool := decide (t.length = 256) && t.all fun b => decide (0 ≤ b) && decide (b < 256)
theorem is_table_eq (t : List Int) (hl : t.length < 1000) : f_pis_table [.tup (t.map .int)] = .ok (.bl (tabOk t), []) := by
  refine mFn_ok ?_
  have lc := mLcO_nm (it := mItV (mVar 0)) (e := mChain fLe fLt (mC (.int 0)) (mVar 1) (mC (.int 256))) (v := 1) (ρ := [some (.tup (t.map .int)), none]) (xs := t.map .int) (fun z => match z with | .int b => .bl (decide (0 ≤ b) && decide (b < 256)) | _ => .non) (by simp) rfl (by
    intro z hz
    obtain ⟨b, _, rfl⟩ := List.mem_map.mp hz
    by_cases h0 : 0 ≤ b
    · simp [h0]
    · simp [h0]) (by rw [sizeLine_eq, List.length_map]; omega)
  rw [List.map_map, show ((fun z : MV => match z with | .int b => MV.bl (decide (0 ≤ b) && decide (b < 256)) | _ => .non) ∘ MV.int) = fun b : Int => MV.bl (decide (0 ≤ b) && decide (b < 256)) from rfl] at lc
  have ba := ball_map (fun b : Int => decide (0 ≤ b) && decide (b < 256)) t
  have hX : (t.map MV.int).length = t.length := List.length_map ..
  have sz : szOk t.length = true := szOk_small (by omega)
  unfold tabOk
  generalize t.map MV.int = X at *
  generalize t.map (fun b : Int => MV.bl (decide (0 ≤ b) && decide (b < 256))) = L at *
  generalize t.all (fun b : Int => decide (0 ≤ b) && decide (b < 256)) = bb at *
  by_cases h : t.length = 256
  · have h2 : (t.length : Int) = 256 := by omega
    simp [m_pis_table, hX, sz, h, lc, ba]
  · have h2 : ¬ (t.length : Int) = 256 := by omega
    simp [m_pis_table, hX, sz, h, h2]
def enT (t : List Int) : MV := .tup (t.map .int)
def enA (r : Str × List Int) : MV := .tup (.str r.1 :: r.2.map .int)
def badTab : Nat → List (List Int) → Option Nat
  | _, [] => none
  | i, t :: ts => if i = 16 ∨ tabOk t = false then some i else badTab (i + 1) ts
def badRow (N nt : Int) : Nat → List (Str × List Int) → Option Nat
  | _, [] => none
  | i, r :: rs => if i = 9000 ∨ rowOk N nt r.1 r.2 = false then some i else badRow N nt (i + 1) rs
theorem hold_tabs (x0 x1 x2 x3 x6 : Option MV) : ∀ (ts : List (List Int)) (i : Nat) (x4 x5 : Option MV), (∀ t ∈ ts, t.length < 1000) →
    ∃ y4 y5, mLoop (gTp 2 (gsCons (gSet 4) (gsCons (gSet 5) gsNil))) b_phold_program_0 (enumK i (ts.map enT)) [x0, x1, x2, x3, x4, x5, x6] =
      match badTab i ts with
      | none => .ok (.nx, [x0, x1, x2, x3, y4, y5, x6])
      | some j => .exc ⟨"NoTable", [("at", .int (j : Nat))]⟩ [x0, x1, x2, x3, y4, y5, x6]
  | [], i, x4, x5, _ => ⟨x4, x5, rfl⟩
  | t :: ts, i, x4, x5, h => by
    have it := is_table_eq t (h t (List.mem_cons_self ..))
    have step : ∀ R, b_phold_program_0 [x0, x1, x2, x3, some (.int (i : Nat)), some (enT t), x6] = R → mLoop (gTp 2 (gsCons (gSet 4) (gsCons (gSet 5) gsNil))) b_phold_program_0 (enumK i ((t :: ts).map enT)) [x0, x1, x2, x3, x4, x5, x6] = (R.bind fun f ρ => match f with | .nx => mLoop (gTp 2 (gsCons (gSet 4) (gsCons (gSet 5) gsNil))) b_phold_program_0 (enumK (i + 1) (ts.map enT)) ρ | .ct => mLoop (gTp 2 (gsCons (gSet 4) (gsCons (gSet 5) gsNil))) b_phold_program_0 (enumK (i + 1) (ts.map enT)) ρ | .br => .ok (.nx, ρ) | .rt v => .ok (.rt v, ρ)) := by
      intro R hR
      rw [← hR]
      rfl
    by_cases hb : i = 16 ∨ tabOk t = false
    · refine ⟨some (.int (i : Nat)), some (enT t), ?_⟩
      have e : badTab i (t :: ts) = some i := if_pos hb
      rw [e]
      refine (step (.exc ⟨"NoTable", [("at", .int (i : Nat))]⟩ [x0, x1, x2, x3, some (.int (i : Nat)), some (enT t), x6]) ?_).trans rfl
      unfold enT
      generalize t.map MV.int = X at *
      rcases hb with rfl | hb
      · simp [b_phold_program_0]
      · by_cases h16 : (i : Int) = 16
        · simp [b_phold_program_0, h16]
        · simp [b_phold_program_0, h16, it, hb]
    · have e : badTab i (t :: ts) = badTab (i + 1) ts := if_neg hb
      rw [e]
      obtain ⟨y4, y5, ih⟩ := hold_tabs x0 x1 x2 x3 x6 ts (i + 1) (some (.int (i : Nat))) (some (enT t)) fun t ht => h t (List.mem_cons_of_mem _ ht)
      refine ⟨y4, y5, ?_⟩
      rw [← ih]
      refine (step (.ok (.nx, [x0, x1, x2, x3, some (.int (i : Nat)), some (enT t), x6])) ?_).trans rfl
      have h16 : ¬ (i : Int) = 16 := by omega
      have hb : tabOk t = true := by
        cases e : tabOk t with
        | true => rfl
        | false => exact absurd (.inr e) hb
      unfold enT
      generalize t.map MV.int = X at *
      simp [b_phold_program_0, h16, it, hb]
theorem hold_rows (N : Int) (nt : Nat) (tabs : List MV) (hT : tabs.length = nt) (hn : nt < 1000) (x0 x3 x5 : Option MV) : ∀ (rs : List (Str × List Int)) (i : Nat) (x4 x6 : Option MV), (∀ r ∈ rs, r.2.length < 1000) →
    ∃ y4 y6, mLoop (gTp 2 (gsCons (gSet 4) (gsCons (gSet 6) gsNil))) b_phold_program_1 (enumK i (rs.map enA)) [x0, some (.int N), some (.tup tabs), x3, x4, x5, x6] =
      match badRow N nt i rs with
      | none => .ok (.nx, [x0, some (.int N), some (.tup tabs), x3, y4, x5, y6])
      | some j => .exc ⟨"NoRow", [("at", .int (j : Nat))]⟩ [x0, some (.int N), some (.tup tabs), x3, y4, x5, y6]
  | [], i, x4, x6, _ => ⟨x4, x6, rfl⟩
  | r :: rs, i, x4, x6, h => by
    have it := is_row_eq r.1 N nt r.2 (h r (List.mem_cons_self ..))
    have sz : szOk nt = true := szOk_small (by omega)
    have step : ∀ R, b_phold_program_1 [x0, some (.int N), some (.tup tabs), x3, some (.int (i : Nat)), x5, some (enA r)] = R → mLoop (gTp 2 (gsCons (gSet 4) (gsCons (gSet 6) gsNil))) b_phold_program_1 (enumK i ((r :: rs).map enA)) [x0, some (.int N), some (.tup tabs), x3, x4, x5, x6] = (R.bind fun f ρ => match f with | .nx => mLoop (gTp 2 (gsCons (gSet 4) (gsCons (gSet 6) gsNil))) b_phold_program_1 (enumK (i + 1) (rs.map enA)) ρ | .ct => mLoop (gTp 2 (gsCons (gSet 4) (gsCons (gSet 6) gsNil))) b_phold_program_1 (enumK (i + 1) (rs.map enA)) ρ | .br => .ok (.nx, ρ) | .rt v => .ok (.rt v, ρ)) := by
      intro R hR
      rw [← hR]
      rfl
    by_cases hb : i = 9000 ∨ rowOk N nt r.1 r.2 = false
    · refine ⟨some (.int (i : Nat)), some (enA r), ?_⟩
      have e : badRow N nt i (r :: rs) = some i := if_pos hb
      rw [e]
      refine (step (.exc ⟨"NoRow", [("at", .int (i : Nat))]⟩ [x0, some (.int N), some (.tup tabs), x3, some (.int (i : Nat)), x5, some (enA r)]) ?_).trans rfl
      unfold enA
      generalize r.2.map MV.int = X at *
      rcases hb with rfl | hb
      · simp [b_phold_program_1]
      · by_cases h16 : (i : Int) = 9000
        · simp [b_phold_program_1, h16]
        · simp [b_phold_program_1, h16, it, hb, hT, sz]
    · have e : badRow N nt i (r :: rs) = badRow N nt (i + 1) rs := if_neg hb
      rw [e]
      obtain ⟨y4, y6, ih⟩ := hold_rows N nt tabs hT hn x0 x3 x5 rs (i + 1) (some (.int (i : Nat))) (some (enA r)) fun t ht => h t (List.mem_cons_of_mem _ ht)
      refine ⟨y4, y6, ?_⟩
      rw [← ih]
      refine (step (.ok (.nx, [x0, some (.int N), some (.tup tabs), x3, some (.int (i : Nat)), x5, some (enA r)])) ?_).trans rfl
      have h16 : ¬ (i : Int) = 9000 := by omega
      have hb : rowOk N nt r.1 r.2 = true := by
        cases e : rowOk N nt r.1 r.2 with
        | true => rfl
        | false => exact absurd (.inr e) hb
      unfold enA
      generalize r.2.map MV.int = X at *
      simp [b_phold_program_1, h16, it, hb, hT, sz]
theorem hold_eq (N : Int) (ts : List (List Int)) (rs : List (Str × List Int)) (ht : ∀ t ∈ ts, t.length < 1000) (hn : ts.length < 1000) (hr : ∀ r ∈ rs, r.2.length < 1000) :
    f_phold_program [.tup [.tup (ts.map enT), .tup (rs.map enA)], .int N] = match badTab 0 ts with
      | some j => .exc ⟨"NoTable", [("at", .int (j : Nat))]⟩ []
      | none => (match badRow N ts.length 0 rs with
        | some j => .exc ⟨"NoRow", [("at", .int (j : Nat))]⟩ []
        | none => .ok (.non, [])) := by
  have hT : (ts.map enT).length = ts.length := List.length_map ..
  obtain ⟨y4, y5, l1⟩ := hold_tabs (some (.tup [.tup (ts.map enT), .tup (rs.map enA)])) (some (.int N)) (some (.tup (ts.map enT))) (some (.tup (rs.map enA))) none ts 0 none none ht
  obtain ⟨z4, z6, l2⟩ := hold_rows N ts.length (ts.map enT) hT hn (some (.tup [.tup (ts.map enT), .tup (rs.map enA)])) (some (.tup (rs.map enA))) y5 rs 0 y4 none hr
  generalize ts.map enT = T at *
  generalize rs.map enA = R at *
  cases h1 : badTab 0 ts with
  | some j =>
    rw [h1] at l1
    refine mFn_exc ⟨[some (.tup [.tup T, .tup R]), some (.int N), some (.tup T), some (.tup R), y4, y5, none], ?_⟩
    show m_phold_program [some (.tup [.tup T, .tup R]), some (.int N), none, none, none, none, none] = _
    simp [m_phold_program, l1]
  | none =>
    rw [h1] at l1
    cases h2 : badRow N ts.length 0 rs with
    | some j =>
      rw [h2] at l2
      refine mFn_exc ⟨[some (.tup [.tup T, .tup R]), some (.int N), some (.tup T), some (.tup R), z4, y5, z6], ?_⟩
      show m_phold_program [some (.tup [.tup T, .tup R]), some (.int N), none, none, none, none, none] = _
      simp [m_phold_program, l1, l2]
    | none =>
      rw [h2] at l2
      refine mFn_nxB ⟨[some (.tup [.tup T, .tup R]), some (.int N), some (.tup T), some (.tup R), z4, y5, z6], ?_, rfl⟩
      show m_phold_program [some (.tup [.tup T, .tup R]), some (.int N), none, none, none, none, none] = _
      simp [m_phold_program, l1, l2]
def okN (N nt : Nat) : Rw → Bool
  | .put a v => decide (a < N) && decide (v < 256)
  | .look a k => decide (a < N) && decide (k < nt)
  | .copy a b => decide (a < N) && decide (b < N)
  | .add a b => decide (a < N) && decide (b < N)
  | .addc a b => decide (a < N) && decide (b < N)
  | .and_ a b => decide (a < N) && decide (b < N)
  | .or_ a b => decide (a < N) && decide (b < N)
  | .left a => decide (a < N)
  | .right a => decide (a < N)
  | .mark v => decide (v < 2)
def CellsN (N : Nat) (c : List Nat) : Prop := c.length = N ∧ ∀ i, cg c i < 256
theorem CellsN.set {N : Nat} {c : List Nat} (h : CellsN N c) {a v : Nat} (hv : v < 256) : CellsN N (c.set a v) := by
  refine ⟨by rw [List.length_set]; exact h.1, fun i => ?_⟩
  rw [cg_set]
  split
  · exact hv
  · exact h.2 i
theorem step_cellsN {N : Nat} {tb : Nat → Nat → Nat} {nt : Nat} (hb : TabLt tb nt) {c : List Nat} {m : Nat} (h : CellsN N c) (hm : m < 2) (r : Rw) (hr : okN N nt r = true) : CellsN N (stepL tb r (c, m)).1 ∧ (stepL tb r (c, m)).2 < 2 := by
  cases r with
  | put a v =>
    simp only [okN, Bool.and_eq_true, decide_eq_true_eq] at hr
    exact ⟨h.set hr.2, hm⟩
  | copy a b => exact ⟨h.set (h.2 b), hm⟩
  | look a k =>
    simp only [okN, Bool.and_eq_true, decide_eq_true_eq] at hr
    exact ⟨h.set (hb _ _ hr.2 (h.2 a)), hm⟩
  | add a b =>
    have h1 := h.2 a
    have h2 := h.2 b
    exact ⟨h.set (Nat.mod_lt _ (by decide)), by simp only [stepL]; omega⟩
  | addc a b =>
    have h1 := h.2 a
    have h2 := h.2 b
    exact ⟨h.set (Nat.mod_lt _ (by decide)), by simp only [stepL]; omega⟩
  | and_ a b => exact ⟨h.set (Nat.lt_of_le_of_lt Nat.and_le_left (h.2 a)), hm⟩
  | or_ a b => exact ⟨h.set (Nat.or_lt_two_pow (n := 8) (h.2 a) (h.2 b)), hm⟩
  | left a => exact ⟨h.set (Nat.mod_lt _ (by decide)), by have := h.2 a; simp only [stepL]; omega⟩
  | right a => exact ⟨h.set (by have := h.2 a; simp only []; omega), by simp only [stepL]; omega⟩
  | mark v =>
    simp only [okN, decide_eq_true_eq] at hr
    exact ⟨h, hr⟩
theorem encC_setI {i : Nat} {ρ : Env} {c : List Nat} {j v : Nat} (h : ρ[i]? = some (some (.own (encC c)))) (hj : j < c.length) : setIxM i (.int v) (.int j) ρ = .ok (.nx, ρ.set i (some (.own (encC (c.set j v))))) := by
  rw [setIxM_o h (j := j) (by unfold encC; rw [List.length_map]; exact (ixN_at (k := c.length) (i := (j : Int)) ⟨by omega, by omega⟩).trans (by simp))]
  unfold encC
  rw [List.map_set]
theorem ixV_ownI {i : Nat} {ρ : Env} {c : List Nat} {j : Nat} (h : ρ[i]? = some (some (.own (encC c)))) (hj : j < c.length) : ixV ρ i (.int j) = some (.int (cg c j : Nat)) := by
  unfold ixV
  rw [h]
  exact encC_at hj
theorem shift_left {N : Nat} {c : List Nat} {m a : Nat} (h : CellsN N c) (hm : m < 2) (ha : a < N) : f_pshift_step [.str "left", .own (encC c), .int a, .int m] = .ok (.int ((2 * cg c a + m) / 256 : Nat), [some (.own (encC (c.set a ((2 * cg c a + m) % 256))))]) := by
  have hl := h.1
  have hb := h.2 a
  refine mFn_rtB ⟨[some (.str "left"), some (.own (encC (c.set a ((2 * cg c a + m) % 256)))), some (.int a), some (.int m), some (.int (cg c a : Nat))], ?_, rfl⟩
  have rd : ∀ (x3 x4 : Option MV), ixV [some (.str "left"), some (.own (encC c)), some (.int a), x3, x4] 1 (.int a) = some (.int (cg c a : Nat)) := fun _ _ => ixV_ownI rfl (by omega)
  have w1 : ∀ (v : Nat) (x3 x4 : Option MV), setIxM 1 (.int v) (.int a) [some (.str "left"), some (.own (encC c)), some (.int a), x3, x4] = .ok (.nx, [some (.str "left"), some (.own (encC (c.set a v))), some (.int a), x3, x4]) := fun v _ _ => encC_setI rfl (by omega)
  have w1 := w1 ((2 * cg c a + m) % 256)
  have d1 : ((2 * cg c a + m : Nat) : Int).fmod 256 = (((2 * cg c a + m) % 256 : Nat) : Int) := nat_fmod _ 256
  have d2 : ((cg c a : Nat) : Int).fdiv 128 = ((cg c a / 128 : Nat) : Int) := nat_fdiv _ 128
  have e : (2 * cg c a + m) / 256 = cg c a / 128 := by omega
  have mz : mulOk 2 (cg c a : Int) = true := mulOk_l (by decide) (by decide)
  rw [e]
  generalize (2 * cg c a + m) % 256 = lo at *
  generalize cg c a / 128 = hi at *
  show m_pshift_step [some (.str "left"), some (.own (encC c)), some (.int a), some (.int m), none] = _
  simp at d1 d2
  simp [m_pshift_step, rd, w1, d1, d2, divOk, mz]
theorem shift_right {N : Nat} {c : List Nat} {m a : Nat} (h : CellsN N c) (hm : m < 2) (ha : a < N) : f_pshift_step [.str "right", .own (encC c), .int a, .int m] = .ok (.int ((cg c a + 256 * m) % 2 : Nat), [some (.own (encC (c.set a ((cg c a + 256 * m) / 2))))]) := by
  have hl := h.1
  have hb := h.2 a
  refine mFn_rtB ⟨[some (.str "right"), some (.own (encC (c.set a ((cg c a + 256 * m) / 2)))), some (.int a), some (.int m), some (.int (cg c a : Nat))], ?_, rfl⟩
  have rd : ∀ (x3 x4 : Option MV), ixV [some (.str "right"), some (.own (encC c)), some (.int a), x3, x4] 1 (.int a) = some (.int (cg c a : Nat)) := fun _ _ => ixV_ownI rfl (by omega)
  have w1 : ∀ (v : Nat) (x3 x4 : Option MV), setIxM 1 (.int v) (.int a) [some (.str "right"), some (.own (encC c)), some (.int a), x3, x4] = .ok (.nx, [some (.str "right"), some (.own (encC (c.set a v))), some (.int a), x3, x4]) := fun v _ _ => encC_setI rfl (by omega)
  have e : (cg c a + 256 * m) / 2 = cg c a / 2 + 128 * m := by omega
  have e2 : (cg c a + 256 * m) % 2 = cg c a % 2 := by omega
  have w1 := w1 (cg c a / 2 + 128 * m)
  have d1 : ((cg c a : Nat) : Int).fmod 2 = ((cg c a % 2 : Nat) : Int) := nat_fmod _ 2
  have d2 : ((cg c a : Nat) : Int).fdiv 2 = ((cg c a / 2 : Nat) : Int) := nat_fdiv _ 2
  have mz : mulOk 128 (m : Int) = true := mulOk_l (by decide) (by decide)
  rw [e, e2]
  generalize cg c a / 2 = lo at *
  generalize cg c a % 2 = hi at *
  show m_pshift_step [some (.str "right"), some (.own (encC c)), some (.int a), some (.int m), none] = _
  simp at d1 d2 w1
  simp [m_pshift_step, rd, w1, d1, d2, divOk, mz]
theorem sum_step_eq {N : Nat} {c : List Nat} {m a b : Nat} (wd : Str) (h : CellsN N c) (hm : m < 2) (ha : a < N) (hb : b < N) (k : Nat) (hk : k = if wd = "addc" then m else 0) : f_psum_step [.str wd, .own (encC c), .int a, .int b, .int m] = .ok (.int ((cg c a + cg c b + k) / 256 : Nat), [some (.own (encC (c.set a ((cg c a + cg c b + k) % 256))))]) := by
  have hl := h.1
  have rd : ∀ (i : Nat) (x4 x5 : Option MV), i < N → ixV [some (.str wd), some (.own (encC c)), some (.int a), some (.int b), x4, x5] 1 (.int i) = some (.int (cg c i : Nat)) := fun i _ _ h => ixV_ownI rfl (by omega)
  have w1 : ∀ (v : Nat) (x4 x5 : Option MV), setIxM 1 (.int v) (.int a) [some (.str wd), some (.own (encC c)), some (.int a), some (.int b), x4, x5] = .ok (.nx, [some (.str wd), some (.own (encC (c.set a v))), some (.int a), some (.int b), x4, x5]) := fun v _ _ => encC_setI rfl (by omega)
  have w1 := w1 ((cg c a + cg c b + k) % 256)
  have d1 : ((cg c a + cg c b + k : Nat) : Int).fmod 256 = (((cg c a + cg c b + k) % 256 : Nat) : Int) := nat_fmod _ 256
  have d2 : ((cg c a + cg c b + k : Nat) : Int).fdiv 256 = (((cg c a + cg c b + k) / 256 : Nat) : Int) := nat_fdiv _ 256
  refine mFn_rtB ⟨[some (.str wd), some (.own (encC (c.set a ((cg c a + cg c b + k) % 256)))), some (.int a), some (.int b), some (.int m), some (.int (cg c a + cg c b + k : Nat))], ?_, rfl⟩
  show m_psum_step [some (.str wd), some (.own (encC c)), some (.int a), some (.int b), some (.int m), none] = _
  generalize (cg c a + cg c b + k) % 256 = lo at *
  generalize (cg c a + cg c b + k) / 256 = hi at *
  simp at d1 d2 w1
  by_cases hw : wd = "addc"
  · rw [if_pos hw] at hk
    subst hk
    subst hw
    simp [m_psum_step, rd _ _ _ ha, rd _ _ _ hb, w1, d1, d2, divOk, fAddI]
  · rw [if_neg hw] at hk
    subst hk
    simp at d1 d2
    simp [m_psum_step, rd _ _ _ ha, rd _ _ _ hb, w1, d1, d2, divOk, hw]
theorem pstep_eq {tb : Nat → Nat → Nat} {nt N : Nat} {tabs : List MV} (ht : TabsAre tb nt tabs) {c : List Nat} {m : Nat} (h : CellsN N c) (hm : m < 2) (r : Rw) (hr : okN N nt r = true) :
    f_pstep [.tup tabs, enR r, .own (encC c), .int m] = .ok (.int (stepL tb r (c, m)).2, [some (.own (encC (stepL tb r (c, m)).1))]) := by
  have hl := h.1
  have rd : ∀ (i : Nat) (x0 x1 x3 x4 x5 x6 : Option MV), i < N → ixV [x0, x1, some (.own (encC c)), x3, x4, x5, x6] 2 (.int i) = some (.int (cg c i : Nat)) := fun i _ _ _ _ _ _ h => ixV_ownI rfl (by omega)
  have wr : ∀ (i v : Nat) (x0 x1 x3 x4 x5 x6 : Option MV), i < N → setIxM 2 (.int v) (.int i) [x0, x1, some (.own (encC c)), x3, x4, x5, x6] = .ok (.nx, [x0, x1, some (.own (encC (c.set i v))), x3, x4, x5, x6]) := fun i v _ _ _ _ _ _ h => encC_setI rfl (by omega)
  have s2 : szOk 2 = true := szOk_small (by omega)
  have go : ∀ {v : MV} {ρ : Env} {os : Env}, m_pstep [some (.tup tabs), some (enR r), some (.own (encC c)), some (.int m), none, none, none] = .ok (.rt v, ρ) → endOf [2] ρ = os → f_pstep [.tup tabs, enR r, .own (encC c), .int m] = .ok (v, os) := fun h1 h2 => mFn_rtB ⟨_, h1, h2⟩
  cases r with
  | put a v =>
    simp only [okN, Bool.and_eq_true, decide_eq_true_eq] at hr
    refine go (ρ := [some (.tup tabs), some (enR (.put a v)), some (.own (encC (c.set a v))), some (.int m), some (.str "put"), some (.int a), some (.int v)]) ?_ rfl
    have i1 : fIn (.str "put") (.tup [.str "left", .str "right"]) = some (.bl false) := rfl
    have i2 : fIn (.str "put") (.tup [.str "add", .str "addc"]) = some (.bl false) := rfl
    simp [m_pstep, s2, enR, stepL, i1, i2, cutM_from, wr _ _ _ _ _ _ _ _ hr.1]
  | copy a b =>
    simp only [okN, Bool.and_eq_true, decide_eq_true_eq] at hr
    refine go (ρ := [some (.tup tabs), some (enR (.copy a b)), some (.own (encC (c.set a (cg c b)))), some (.int m), some (.str "copy"), some (.int a), some (.int b)]) ?_ rfl
    have i1 : fIn (.str "copy") (.tup [.str "left", .str "right"]) = some (.bl false) := rfl
    have i2 : fIn (.str "copy") (.tup [.str "add", .str "addc"]) = some (.bl false) := rfl
    simp [m_pstep, s2, enR, stepL, i1, i2, cutM_from, wr _ _ _ _ _ _ _ _ hr.1, rd _ _ _ _ _ _ _ hr.2]
  | look a k =>
    simp only [okN, Bool.and_eq_true, decide_eq_true_eq] at hr
    have h1 := ht k hr.2
    have h2 := tab_at (g := tb k) (h.2 a)
    refine go (ρ := [some (.tup tabs), some (enR (.look a k)), some (.own (encC (c.set a (tb k (cg c a))))), some (.int m), some (.str "look"), some (.int a), some (.int k)]) ?_ rfl
    have i1 : fIn (.str "look") (.tup [.str "left", .str "right"]) = some (.bl false) := rfl
    have i2 : fIn (.str "look") (.tup [.str "add", .str "addc"]) = some (.bl false) := rfl
    generalize (List.range 256).map (fun b => MV.int (tb k b)) = tl at *
    simp [m_pstep, s2, enR, stepL, i1, i2, cutM_from, wr _ _ _ _ _ _ _ _ hr.1, rd _ _ _ _ _ _ _ hr.1, h1, h2]
  | add a b =>
    simp only [okN, Bool.and_eq_true, decide_eq_true_eq] at hr
    have s := sum_step_eq "add" h hm hr.1 hr.2 0 rfl
    refine go (ρ := [some (.tup tabs), some (enR (.add a b)), some (.own (encC (c.set a ((cg c a + cg c b) % 256)))), some (.int m), some (.str "add"), some (.int a), some (.int b)]) ?_ rfl
    have i1 : fIn (.str "add") (.tup [.str "left", .str "right"]) = some (.bl false) := rfl
    have i2 : fIn (.str "add") (.tup [.str "add", .str "addc"]) = some (.bl true) := rfl
    rw [Nat.add_zero] at s
    simp only [stepL]
    generalize (cg c a + cg c b) % 256 = lo at *
    generalize (cg c a + cg c b) / 256 = hi at *
    simp [m_pstep, s2, enR, i1, i2, cutM_from, s]
  | addc a b =>
    simp only [okN, Bool.and_eq_true, decide_eq_true_eq] at hr
    have s := sum_step_eq "addc" h hm hr.1 hr.2 m rfl
    refine go (ρ := [some (.tup tabs), some (enR (.addc a b)), some (.own (encC (c.set a ((cg c a + cg c b + m) % 256)))), some (.int m), some (.str "addc"), some (.int a), some (.int b)]) ?_ rfl
    have i1 : fIn (.str "addc") (.tup [.str "left", .str "right"]) = some (.bl false) := rfl
    have i2 : fIn (.str "addc") (.tup [.str "add", .str "addc"]) = some (.bl true) := rfl
    simp only [stepL]
    generalize (cg c a + cg c b + m) % 256 = lo at *
    generalize (cg c a + cg c b + m) / 256 = hi at *
    simp [m_pstep, s2, enR, i1, i2, cutM_from, s]
  | and_ a b =>
    simp only [okN, Bool.and_eq_true, decide_eq_true_eq] at hr
    refine go (ρ := [some (.tup tabs), some (enR (.and_ a b)), some (.own (encC (c.set a (cg c a &&& cg c b)))), some (.int m), some (.str "and"), some (.int a), some (.int b)]) ?_ rfl
    have e := bitAnd_n (cg c a) (cg c b)
    have w1 := fun x0 x1 x3 x4 x5 x6 => wr a (cg c a &&& cg c b) x0 x1 x3 x4 x5 x6 hr.1
    have i1 : fIn (.str "and") (.tup [.str "left", .str "right"]) = some (.bl false) := rfl
    have i2 : fIn (.str "and") (.tup [.str "add", .str "addc"]) = some (.bl false) := rfl
    simp [m_pstep, s2, enR, stepL, i1, i2, cutM_from, w1, rd _ _ _ _ _ _ _ hr.1, rd _ _ _ _ _ _ _ hr.2, fAnd, e]
  | or_ a b =>
    simp only [okN, Bool.and_eq_true, decide_eq_true_eq] at hr
    refine go (ρ := [some (.tup tabs), some (enR (.or_ a b)), some (.own (encC (c.set a (cg c a ||| cg c b)))), some (.int m), some (.str "or"), some (.int a), some (.int b)]) ?_ rfl
    have e := bitOr_n (cg c a) (cg c b)
    have w1 := fun x0 x1 x3 x4 x5 x6 => wr a (cg c a ||| cg c b) x0 x1 x3 x4 x5 x6 hr.1
    have i1 : fIn (.str "or") (.tup [.str "left", .str "right"]) = some (.bl false) := rfl
    have i2 : fIn (.str "or") (.tup [.str "add", .str "addc"]) = some (.bl false) := rfl
    simp [m_pstep, s2, enR, stepL, i1, i2, cutM_from, w1, rd _ _ _ _ _ _ _ hr.1, rd _ _ _ _ _ _ _ hr.2, fOr, e]
  | left a =>
    simp only [okN, decide_eq_true_eq] at hr
    have s := shift_left h hm hr
    refine go (ρ := [some (.tup tabs), some (enR (.left a)), some (.own (encC (c.set a ((2 * cg c a + m) % 256)))), some (.int m), some (.str "left"), none, none]) ?_ rfl
    have i1 : fIn (.str "left") (.tup [.str "left", .str "right"]) = some (.bl true) := rfl
    simp only [stepL]
    generalize (2 * cg c a + m) % 256 = lo at *
    generalize (2 * cg c a + m) / 256 = hi at *
    simp [m_pstep, s2, enR, i1, s]
  | right a =>
    simp only [okN, decide_eq_true_eq] at hr
    have s := shift_right h hm hr
    refine go (ρ := [some (.tup tabs), some (enR (.right a)), some (.own (encC (c.set a ((cg c a + 256 * m) / 2)))), some (.int m), some (.str "right"), none, none]) ?_ rfl
    have i1 : fIn (.str "right") (.tup [.str "left", .str "right"]) = some (.bl true) := rfl
    simp only [stepL]
    generalize (cg c a + 256 * m) / 2 = lo at *
    generalize (cg c a + 256 * m) % 2 = hi at *
    simp [m_pstep, s2, enR, i1, s]
  | mark v =>
    refine go (ρ := [some (.tup tabs), some (enR (.mark v)), some (.own (encC c)), some (.int m), some (.str "mark"), none, none]) ?_ rfl
    simp [m_pstep, s2, enR, stepL]
theorem work_loop {tb : Nat → Nat → Nat} {nt N : Nat} {tabs : List MV} (ht : TabsAre tb nt tabs) (hb : TabLt tb nt) (R : MV) (x1 : Option MV) : ∀ (rs : List Rw) (c : List Nat) (m : Nat) (x4 : Option MV), CellsN N c → m < 2 → rs.all (okN N nt) = true →
    ∃ y4, mLoop (gSet 4) b_pwork_0 (rs.map enR) [some (.tup [.tup tabs, R]), x1, some (.int m), some (.own (encC c)), x4] = .ok (.nx, [some (.tup [.tup tabs, R]), x1, some (.int (runL tb rs (c, m)).2), some (.own (encC (runL tb rs (c, m)).1)), y4])
  | [], c, m, x4, _, _, _ => ⟨x4, rfl⟩
  | r :: rs, c, m, x4, h, hm, hr => by
    rw [List.all_cons, Bool.and_eq_true] at hr
    have e := pstep_eq ht h hm r hr.1
    obtain ⟨h1, h2⟩ := step_cellsN hb h hm r hr.1
    obtain ⟨z4, ih⟩ := work_loop ht hb R x1 rs (stepL tb r (c, m)).1 (stepL tb r (c, m)).2 (some (enR r)) h1 h2 hr.2
    refine ⟨z4, ?_⟩
    rw [List.map_cons, mLoop]
    have st : b_pwork_0 [some (.tup [.tup tabs, R]), x1, some (.int m), some (.own (encC c)), some (enR r)] = .ok (.nx, [some (.tup [.tup tabs, R]), x1, some (.int (stepL tb r (c, m)).2), some (.own (encC (stepL tb r (c, m)).1)), some (enR r)]) := by
      have er : ∃ ys, enR r = .tup ys := by cases r <;> exact ⟨_, rfl⟩
      obtain ⟨ys, er⟩ := er
      rw [er] at e ⊢
      generalize encC (stepL tb r (c, m)).1 = C1 at *
      generalize (stepL tb r (c, m)).2 = m1 at *
      generalize encC c = C at *
      simp [b_pwork_0, e]
    show (b_pwork_0 [some (.tup [.tup tabs, R]), x1, some (.int m), some (.own (encC c)), some (enR r)]).bind _ = _
    rw [st]
    exact ih
theorem run_cellsN {N : Nat} {tb : Nat → Nat → Nat} {nt : Nat} (hb : TabLt tb nt) : ∀ (rs : List Rw) (c : List Nat) (m : Nat), CellsN N c → m < 2 → rs.all (okN N nt) = true → CellsN N (runL tb rs (c, m)).1 ∧ (runL tb rs (c, m)).2 < 2
  | [], c, m, h, hm, _ => ⟨h, hm⟩
  | r :: rs, c, m, h, hm, hr => by
    rw [List.all_cons, Bool.and_eq_true] at hr
    obtain ⟨h1, h2⟩ := step_cellsN hb h hm r hr.1
    exact run_cellsN hb rs (stepL tb r (c, m)).1 (stepL tb r (c, m)).2 h1 h2 hr.2
def abR : Rw → Str × List Int
  | .put a v => ("put", [a, v])
  | .copy a b => ("copy", [a, b])
  | .look a k => ("look", [a, k])
  | .add a b => ("add", [a, b])
  | .addc a b => ("addc", [a, b])
  | .and_ a b => ("and", [a, b])
  | .or_ a b => ("or", [a, b])
  | .left a => ("left", [a])
  | .right a => ("right", [a])
  | .mark v => ("mark", [v])
theorem enA_abR (r : Rw) : enA (abR r) = enR r := by cases r <;> rfl
theorem rowOk_of {N nt : Int} {wd : Str} {xs : List Int} {ks : List Str} (h : kindsT.lookup wd = some ks) : rowOk N nt wd xs = (decide (xs.length = ks.length) && (xs.zip ks).all (inB N nt)) := by
  unfold rowOk; rw [h]
theorem bndK (N nt : Int) : bndOf N nt "c" = N ∧ bndOf N nt "b" = 256 ∧ bndOf N nt "t" = nt ∧ bndOf N nt "m" = 2 := ⟨rfl, rfl, rfl, rfl⟩
theorem ok_abR {N nt : Nat} (r : Rw) : rowOk N nt (abR r).1 (abR r).2 = okN N nt r := by
  obtain ⟨b1, b2, b3, b4⟩ := bndK N nt
  have q1 : ∀ v : Nat, ((v : Int) < 256) = (v < 256) := fun v => propext ⟨fun h => by omega, fun h => by omega⟩
  have q2 : ∀ v : Nat, ((v : Int) < 2) = (v < 2) := fun v => propext ⟨fun h => by omega, fun h => by omega⟩
  cases r with
  | put a v => rw [show (abR (.put a v)).1 = "put" from rfl, rowOk_of (ks := ["c", "b"]) rfl]; simp [abR, inB, b1, b2, okN, q1]
  | copy a b => rw [show (abR (.copy a b)).1 = "copy" from rfl, rowOk_of (ks := ["c", "c"]) rfl]; simp [abR, inB, b1, okN]
  | look a b => rw [show (abR (.look a b)).1 = "look" from rfl, rowOk_of (ks := ["c", "t"]) rfl]; simp [abR, inB, b1, b3, okN]
  | add a b => rw [show (abR (.add a b)).1 = "add" from rfl, rowOk_of (ks := ["c", "c"]) rfl]; simp [abR, inB, b1, okN]
  | addc a b => rw [show (abR (.addc a b)).1 = "addc" from rfl, rowOk_of (ks := ["c", "c"]) rfl]; simp [abR, inB, b1, okN]
  | and_ a b => rw [show (abR (.and_ a b)).1 = "and" from rfl, rowOk_of (ks := ["c", "c"]) rfl]; simp [abR, inB, b1, okN]
  | or_ a b => rw [show (abR (.or_ a b)).1 = "or" from rfl, rowOk_of (ks := ["c", "c"]) rfl]; simp [abR, inB, b1, okN]
  | left a => rw [show (abR (.left a)).1 = "left" from rfl, rowOk_of (ks := ["c"]) rfl]; simp [abR, inB, b1, okN]
  | right a => rw [show (abR (.right a)).1 = "right" from rfl, rowOk_of (ks := ["c"]) rfl]; simp [abR, inB, b1, okN]
  | mark a => rw [show (abR (.mark a)).1 = "mark" from rfl, rowOk_of (ks := ["m"]) rfl]; simp [abR, inB, b4, okN, q2]
theorem badRow_good {N nt : Nat} : ∀ (rs : List Rw) (i : Nat), i + rs.length ≤ 9000 → rs.all (okN N nt) = true → badRow N nt i (rs.map abR) = none
  | [], _, _, _ => rfl
  | r :: rs, i, hi, h => by
    rw [List.all_cons, Bool.and_eq_true] at h
    rw [List.length_cons] at hi
    rw [List.map_cons]
    refine (if_neg ?_).trans (badRow_good rs (i + 1) (by omega) h.2)
    rw [ok_abR, h.1]
    simp; omega
theorem badTab_good : ∀ (ts : List (List Int)) (i : Nat), i + ts.length ≤ 16 → ts.all tabOk = true → badTab i ts = none
  | [], _, _, _ => rfl
  | t :: ts, i, hi, h => by
    rw [List.all_cons, Bool.and_eq_true] at h
    rw [List.length_cons] at hi
    refine (if_neg ?_).trans (badTab_good ts (i + 1) (by omega) h.2)
    rw [h.1]
    simp; omega
theorem abR_len (r : Rw) : (abR r).2.length < 1000 := by cases r <;> simp [abR]
def CR (c : List Nat) (m : Nat) (p : List Nat × Nat) (a : Nat) : Prop := Cells p.1 ∧ p.2 = m ∧ (∀ i, i < 252 → cg p.1 i = cg c i) ∧ cg p.1 252 = a
theorem tabs_gen (tb : Nat → Nat → Nat) (nt : Nat) : TabsAre tb nt ((List.range nt).map fun k => .tup ((List.range 256).map fun b => .int (tb k b))) := by
  intro k hk
  rw [atI_ge (by omega), Int.toNat_natCast, List.getElem?_map, List.getElem?_range hk]; rfl
theorem lrunN_step {N : Nat} {tb : Nat → Nat → Nat} {nt : Nat} {tabs : List MV} (ht : TabsAre tb nt tabs) {c : List Nat} {m : Nat} (hl : c.length = N) (hc : ∀ i, cg c i < 256) (r : Rw) (hr : okN N nt r = true) (x0 x5 x6 x7 x8 : Option MV) :
    ∃ y6 y7 y8, b_lrun_0 [x0, some (.own (encC c)), some (.int m), some (enR r), some (.tup tabs), x5, x6, x7, x8] = .ok (.nx, [x0, some (.own (encC (stepL tb r (c, m)).1)), some (.int (stepL tb r (c, m)).2), some (enR r), some (.tup tabs), x5, y6, y7, y8]) := by
  have rd : ∀ (i : Nat) (x2 x3 x4 x6 x7 x8 : Option MV), i < N → ixV [x0, some (.own (encC c)), x2, x3, x4, x5, x6, x7, x8] 1 (.int i) = some (.int (cg c i : Nat)) := fun i _ _ _ _ _ _ h => ixV_own rfl (by omega)
  have wr : ∀ (i v : Nat) (x2 x3 x4 x6 x7 x8 : Option MV), i < N → setIxM 1 (.int v) (.int i) [x0, some (.own (encC c)), x2, x3, x4, x5, x6, x7, x8] = .ok (.nx, [x0, some (.own (encC (c.set i v))), x2, x3, x4, x5, x6, x7, x8]) := fun i v _ _ _ _ _ _ h => encC_set rfl (by omega)
  have dm : ∀ t : Nat, (t : Int).fmod 256 = ((t % 256 : Nat) : Int) := fun t => nat_fmod t 256
  have dd : ∀ t : Nat, (t : Int).fdiv 256 = ((t / 256 : Nat) : Int) := fun t => nat_fdiv t 256
  have em : ∀ t : Nat, (t : Int).fmod 2 = ((t % 2 : Nat) : Int) := fun t => nat_fmod t 2
  have ed : ∀ t : Nat, (t : Int).fdiv 2 = ((t / 2 : Nat) : Int) := fun t => nat_fdiv t 2
  cases r with
  | put a v =>
    simp only [okN, Bool.and_eq_true, decide_eq_true_eq] at hr
    refine ⟨some (.str "put"), some (.int a), x8, ?_⟩
    simp [b_lrun_0, enR, stepL, wr _ _ _ _ _ _ _ _ hr.1]
  | copy a b =>
    simp only [okN, Bool.and_eq_true, decide_eq_true_eq] at hr
    refine ⟨some (.str "copy"), some (.int a), x8, ?_⟩
    simp [b_lrun_0, enR, stepL, wr _ _ _ _ _ _ _ _ hr.1, rd _ _ _ _ _ _ _ hr.2]
  | look a k =>
    simp only [okN, Bool.and_eq_true, decide_eq_true_eq] at hr
    refine ⟨some (.str "look"), some (.int a), x8, ?_⟩
    have h1 := ht k hr.2
    have h2 := tab_at (g := tb k) (hc a)
    generalize (List.range 256).map (fun b => MV.int (tb k b)) = tl at *
    simp [b_lrun_0, enR, stepL, wr _ _ _ _ _ _ _ _ hr.1, rd _ _ _ _ _ _ _ hr.1, h1, h2]
  | add a b =>
    simp only [okN, Bool.and_eq_true, decide_eq_true_eq] at hr
    have e : ((cg c a : Int) + cg c b + 0) = ((cg c a + cg c b : Nat) : Int) := by omega
    refine ⟨some (.str "add"), some (.int a), some (.int (cg c a + cg c b : Nat)), ?_⟩
    have d1 := dm (cg c a + cg c b)
    have d2 := dd (cg c a + cg c b)
    have w1 := fun x2 x3 x4 x6 x7 x8 => wr a ((cg c a + cg c b) % 256) x2 x3 x4 x6 x7 x8 hr.1
    have mz : mulOk (m : Int) 0 = true := mulOk_r (by decide) (by decide)
    simp only [stepL]
    generalize (cg c a + cg c b) % 256 = lo at *
    generalize (cg c a + cg c b) / 256 = hi at *
    simp at d1 d2
    simp [b_lrun_0, enR, stepL, w1, rd _ _ _ _ _ _ _ hr.1, rd _ _ _ _ _ _ _ hr.2, mz, divOk, d1, d2]
  | addc a b =>
    simp only [okN, Bool.and_eq_true, decide_eq_true_eq] at hr
    refine ⟨some (.str "addc"), some (.int a), some (.int (cg c a + cg c b + m : Nat)), ?_⟩
    have d1 := dm (cg c a + cg c b + m)
    have d2 := dd (cg c a + cg c b + m)
    have w1 := fun x2 x3 x4 x6 x7 x8 => wr a ((cg c a + cg c b + m) % 256) x2 x3 x4 x6 x7 x8 hr.1
    have mz : mulOk (m : Int) 1 = true := mulOk_r (by decide) (by decide)
    simp only [stepL]
    generalize (cg c a + cg c b + m) % 256 = lo at *
    generalize (cg c a + cg c b + m) / 256 = hi at *
    simp at d1 d2
    simp [b_lrun_0, enR, stepL, w1, rd _ _ _ _ _ _ _ hr.1, rd _ _ _ _ _ _ _ hr.2, mz, divOk, d1, d2]
  | and_ a b =>
    simp only [okN, Bool.and_eq_true, decide_eq_true_eq] at hr
    refine ⟨some (.str "and"), some (.int a), x8, ?_⟩
    have e := bitAnd_n (cg c a) (cg c b)
    have w1 := fun x2 x3 x4 x6 x7 x8 => wr a (cg c a &&& cg c b) x2 x3 x4 x6 x7 x8 hr.1
    simp [b_lrun_0, enR, stepL, w1, rd _ _ _ _ _ _ _ hr.1, rd _ _ _ _ _ _ _ hr.2, fAnd, e]
  | or_ a b =>
    simp only [okN, Bool.and_eq_true, decide_eq_true_eq] at hr
    refine ⟨some (.str "or"), some (.int a), x8, ?_⟩
    have e := bitOr_n (cg c a) (cg c b)
    have w1 := fun x2 x3 x4 x6 x7 x8 => wr a (cg c a ||| cg c b) x2 x3 x4 x6 x7 x8 hr.1
    simp [b_lrun_0, enR, stepL, w1, rd _ _ _ _ _ _ _ hr.1, rd _ _ _ _ _ _ _ hr.2, fOr, e]
  | left a =>
    simp only [okN, decide_eq_true_eq] at hr
    refine ⟨some (.str "left"), some (.int a), some (.int (2 * cg c a + m : Nat)), ?_⟩
    have d1 := dm (2 * cg c a + m)
    have d2 := dd (2 * cg c a + m)
    have w1 := fun x2 x3 x4 x6 x7 x8 => wr a ((2 * cg c a + m) % 256) x2 x3 x4 x6 x7 x8 hr
    have mz : mulOk 2 (cg c a : Int) = true := mulOk_l (by decide) (by decide)
    simp only [stepL]
    generalize (2 * cg c a + m) % 256 = lo at *
    generalize (2 * cg c a + m) / 256 = hi at *
    simp at d1 d2
    simp [b_lrun_0, enR, stepL, w1, rd _ _ _ _ _ _ _ hr, mz, divOk, d1, d2]
  | right a =>
    simp only [okN, decide_eq_true_eq] at hr
    refine ⟨some (.str "right"), some (.int a), some (.int (cg c a + 256 * m : Nat)), ?_⟩
    have d1 := em (cg c a + 256 * m)
    have d2 := ed (cg c a + 256 * m)
    have w1 := fun x2 x3 x4 x6 x7 x8 => wr a ((cg c a + 256 * m) / 2) x2 x3 x4 x6 x7 x8 hr
    have mz : mulOk 256 (m : Int) = true := mulOk_l (by decide) (by decide)
    simp only [stepL]
    generalize (cg c a + 256 * m) % 2 = lo at *
    generalize (cg c a + 256 * m) / 2 = hi at *
    simp at d1 d2
    simp [b_lrun_0, enR, stepL, w1, rd _ _ _ _ _ _ _ hr, mz, divOk, d1, d2]
  | mark v =>
    refine ⟨some (.str "mark"), some (.int v), x8, ?_⟩
    simp [b_lrun_0, enR, stepL]
theorem lrunN_loop {N : Nat} {tb : Nat → Nat → Nat} {nt : Nat} {tabs : List MV} (ht : TabsAre tb nt tabs) (hb : TabLt tb nt) (x0 x5 : Option MV) : ∀ (rs : List Rw) (c : List Nat) (m : Nat) (x3 x6 x7 x8 : Option MV), CellsN N c → m < 2 → rs.all (okN N nt) = true →
    ∃ y3 y6 y7 y8, mLoop (gSet 3) b_lrun_0 (rs.map enR) [x0, some (.own (encC c)), some (.int m), x3, some (.tup tabs), x5, x6, x7, x8] = .ok (.nx, [x0, some (.own (encC (runL tb rs (c, m)).1)), some (.int (runL tb rs (c, m)).2), y3, some (.tup tabs), x5, y6, y7, y8])
  | [], c, m, x3, x6, x7, x8, _, _, _ => ⟨x3, x6, x7, x8, rfl⟩
  | r :: rs, c, m, x3, x6, x7, x8, h, hm, hr => by
    rw [List.all_cons, Bool.and_eq_true] at hr
    obtain ⟨y6, y7, y8, e⟩ := lrunN_step ht h.1 h.2 (m := m) r hr.1 x0 x5 x6 x7 x8
    obtain ⟨h1, h2⟩ := step_cellsN hb h hm r hr.1
    obtain ⟨z3, z6, z7, z8, ih⟩ := lrunN_loop ht hb x0 x5 rs (stepL tb r (c, m)).1 (stepL tb r (c, m)).2 (some (enR r)) y6 y7 y8 h1 h2 hr.2
    refine ⟨z3, z6, z7, z8, ?_⟩
    rw [List.map_cons, mLoop]
    show (b_lrun_0 [x0, some (.own (encC c)), some (.int m), some (enR r), some (.tup tabs), x5, x6, x7, x8]).bind _ = _
    rw [e]
    exact ih
theorem lrunN_eq {N : Nat} {T : List MV → MV} (hT : T = .lst ∨ T = .tup) (hN : N ≤ 256) {tb : Nat → Nat → Nat} {nt : Nat} {tabs : List MV} (ht : TabsAre tb nt tabs) (hb : TabLt tb nt) (rs : List Rw) (c : List Nat) (m : Nat) (h : CellsN N c) (hm : m < 2) (hr : rs.all (okN N nt) = true) :
    f_lrun [.tup [.tup tabs, .tup (rs.map enR)], T (encC c), .int m] = .ok (.tup [.lst (encC (runL tb rs (c, m)).1), .int (runL tb rs (c, m)).2], []) := by
  refine mFn_ok ?_
  have hl : (encC c).length ≤ sizeLine := by unfold encC; rw [List.length_map, h.1, sizeLine_eq]; omega
  obtain ⟨y3, y6, y7, y8, lp⟩ := lrunN_loop ht hb (some (.tup [.tup tabs, .tup (rs.map enR)])) (some (.tup (rs.map enR))) rs c m none none none none h hm hr
  have bl : bList [T (encC c)] = some (.lst (encC c)) := by rcases hT with rfl | rfl <;> rfl
  generalize rs.map enR = R at *
  generalize encC c = C at *
  rcases hT with rfl | rfl <;> simp [m_lrun, lp, szOk_small, bl]
def tabsOf (tb : Nat → Nat → Nat) (nt : Nat) : List MV := (List.range nt).map fun k => .tup ((List.range 256).map fun b => .int (tb k b))
structure DrP (N : Nat) where
  tb : Nat → Nat → Nat
  nt : Nat
  rs : List Rw
  c : List Nat
  m : Nat
  h16 : nt ≤ 16
  tl : TabLt tb nt
  ok : rs.all (okN N nt) = true
  h48 : rs.length ≤ 48
  cn : CellsN N c
  m2 : m < 2
theorem tabsOf_enT (tb : Nat → Nat → Nat) (nt : Nat) : tabsOf tb nt = ((List.range nt).map fun k => (List.range 256).map fun b => ((tb k b : Nat) : Int)).map enT := by
  unfold tabsOf
  rw [List.map_map]
  apply List.map_congr_left
  intro k _
  show MV.tup _ = MV.tup _
  rw [List.map_map]
  rfl
theorem tabsT_ok {tb : Nat → Nat → Nat} {nt : Nat} (h : TabLt tb nt) : ((List.range nt).map fun k => (List.range 256).map fun b => ((tb k b : Nat) : Int)).all tabOk = true := by
  rw [List.all_eq_true]
  intro t ht
  obtain ⟨k, hk, rfl⟩ := List.mem_map.mp ht
  unfold tabOk
  rw [Bool.and_eq_true, List.all_eq_true]
  refine ⟨by simp, fun b hb => ?_⟩
  obtain ⟨v, hv, rfl⟩ := List.mem_map.mp hb
  have := h k v (List.mem_range.mp hk) (List.mem_range.mp hv)
  simp; omega
def nd (m : Nat) : Nat := (Nat.toDigits 10 m).length
section
variable {kd sg : Str} {n : Nat} {p : MV}
theorem pfolded_eq (hn : 1 ≤ n) (h : n < 100) (hs : sg = "none" ∨ sg = "end" ∨ sg = "tens") (x : Int) : f_pfolded [Form kd n sg p, .int x] = .ok (.int (folded n sg x), []) := by
  refine mFn_ok ?_
  have hp := ten_pos n
  have hpl := @pleast_eq kd sg n p hn h
  unfold Form at hpl
  rcases hs with rfl | rfl | rfl
  · simp [m_pfolded, Form, at2, at1, folded, pten_eq (k := n) (by omega) (by omega), Int.ne_of_gt hp]
  · by_cases hx : x < 0
    · simp [m_pfolded, Form, at2, at1, folded, pten_eq (k := n) (by omega) (by omega), Int.ne_of_gt hp, sg_ne1, sg_ne5, hx]
    · simp [m_pfolded, Form, at2, at1, folded, pten_eq (k := n) (by omega) (by omega), Int.ne_of_gt hp, sg_ne1, sg_ne5, hx]
  · simp [m_pfolded, Form, at2, at1, folded, pten_eq (k := n) (by omega) (by omega), Int.ne_of_gt hp, sg_ne2, hpl]
    simp [least, sg_ne2, sg_ne3]
    rw [show x - -5 * 10 ^ (n - 1) = x + 5 * 10 ^ (n - 1) by omega]
    omega
end
theorem work_eqL {tb : Nat → Nat → Nat} {nt N : Nat} {tabs : List MV} (ht : TabsAre tb nt tabs) (hb : TabLt tb nt) {c : List Nat} {m : Nat} (h : CellsN N c) (hm : m < 2) (hN : N ≤ 256) {rs : List Rw} (hr : rs.all (okN N nt) = true) :
    f_pwork [.tup [.tup tabs, .tup (rs.map enR)], .lst (encC c), .int m] = .ok (.tup [.lst (encC (runL tb rs (c, m)).1), .int (runL tb rs (c, m)).2], []) := by
  obtain ⟨y4, l⟩ := work_loop ht hb (.tup (rs.map enR)) (some (.lst (encC c))) rs c m none h hm hr
  have hl : (encC c).length ≤ sizeLine := by unfold encC; rw [List.length_map, h.1, sizeLine_eq]; omega
  have bl : bList [.lst (encC c)] = some (.lst (encC c)) := rfl
  refine mFn_ok ?_
  generalize encC (runL tb rs (c, m)).1 = C1 at *
  generalize (runL tb rs (c, m)).2 = m1 at *
  generalize rs.map enR = R at *
  generalize encC c = C at *
  simp [m_pwork, l, bl, show szOk 2 = true from szOk_small (by omega)]
theorem fEq_one (a b : Int) : fEq (.tup [.int a]) (.tup [.int b]) = some (.bl (a == b)) := by
  show some (MV.bl ((a == b) && true)) = _
  rw [Bool.and_true]
def byK (kd : Str) (a : Nat) : Nat := if kd = "packed" then a else 240 + a
theorem rowK {kd : Str} (hk : kd = "packed" ∨ kd = "spread") : ∀ a : Nat, a < 10 → rowM kd "none" 1 (a : Int) = [byK kd a] := by
  rcases hk with rfl | rfl <;> decide +kernel
theorem keptK {kd : Str} (hk : kd = "packed" ∨ kd = "spread") {a : Nat} (ha : a < 10) : f_pkept [.tup [.str kd, .int 1, .str "none", .int 0], .int a] = .ok (.tup [.int (byK kd a)], []) := by
  have e := @pkept_eq kd "none" 1 (.int 0) hk (by decide) (a : Int) (by
    have h1 : least 1 "none" = 0 := by decide +kernel
    have h2 : most 1 "none" = 9 := by decide +kernel
    rw [h1, h2]; omega)
  rw [rowK hk a ha] at e
  exact e
theorem foldK {kd : Str} (x : Int) : f_pfolded [.tup [.str kd, .int 1, .str "none", .int 0], .int x] = .ok (.int (x % 10), []) := by
  have e := @pfolded_eq kd "none" 1 (.int 0) (by decide) (by decide) (.inl rfl) x
  rw [show folded 1 "none" x = x % 10 by
    have : folded 1 "none" x = x.fmod (10 ^ 1) := rfl
    rw [this, Int.fmod_eq_emod_of_nonneg _ (by decide)]; rfl] at e
  exact e
theorem cut_one {C : List Nat} (h : 1 ≤ C.length) : cutM (encC C) none (some 1) = [.int (cg C 0 : Nat)] := by
  rw [cutM_to (by decide)]
  cases C with
  | nil => simp at h
  | cons a C => rfl
theorem lsome_row72 {N nt : Nat} (hN : 1 ≤ N ∧ N ≤ 256) (hnt : nt ≤ 100) (c0 salt : Int) : ∃ r : Rw, okN N nt r = true ∧ f_lsome_row [.int c0, .int salt, .int N, .int nt] = .ok (enR r, []) := by
  obtain ⟨ds, hd, hds⟩ := ldraws_ok c0 salt [12, 256, 256, 256] (by decide) (by decide)
  simp only [draws_cons, draws_nil] at hd
  obtain ⟨d0, _, rfl, u0, d1, _, rfl, u1, d2, _, rfl, u2, d3, _, rfl, u3, rfl⟩ := hd
  obtain ⟨a, rfl⟩ : ∃ a : Nat, d1 = a := ⟨d1.toNat, by omega⟩
  obtain ⟨b, rfl⟩ : ∃ b : Nat, d2 = b := ⟨d2.toNat, by omega⟩
  obtain ⟨v, rfl⟩ : ∃ b : Nat, d3 = b := ⟨d3.toNat, by omega⟩
  simp at hds
  have dN : divOk (N : Int) = true := divOk_small (by omega) (by omega)
  have nz : ¬ (N : Int) = 0 := by omega
  have nz2 : ¬ N = 0 := by omega
  have d2' : divOk 2 = true := by decide
  have eA : (a : Int).fmod (N : Int) = ((a % N : Nat) : Int) := nat_fmod a N
  have eB : (b : Int).fmod (N : Int) = ((b % N : Nat) : Int) := nat_fmod b N
  have e2 : (v : Int).fmod 2 = ((v % 2 : Nat) : Int) := nat_fmod v 2
  have lA : a % N < N := Nat.mod_lt _ (by omega)
  have lB : b % N < N := Nat.mod_lt _ (by omega)
  have l2 : v % 2 < 2 := Nat.mod_lt _ (by decide)
  have hv : v < 256 := by omega
  have iL : fIn (.str "left") (.tup [.str "left", .str "right"]) = some (.bl true) := rfl
  have iR : fIn (.str "right") (.tup [.str "left", .str "right"]) = some (.bl true) := rfl
  have i1 : fIn (.str "put") (.tup [.str "left", .str "right"]) = some (.bl false) := rfl
  have i2 : fIn (.str "copy") (.tup [.str "left", .str "right"]) = some (.bl false) := rfl
  have i3 : fIn (.str "add") (.tup [.str "left", .str "right"]) = some (.bl false) := rfl
  have i4 : fIn (.str "addc") (.tup [.str "left", .str "right"]) = some (.bl false) := rfl
  have i5 : fIn (.str "and") (.tup [.str "left", .str "right"]) = some (.bl false) := rfl
  have i6 : fIn (.str "or") (.tup [.str "left", .str "right"]) = some (.bl false) := rfl
  have i7 : fIn (.str "look") (.tup [.str "left", .str "right"]) = some (.bl false) := rfl
  generalize a % N = aN at *
  generalize hbN : b % N = bN at *
  generalize v % 2 = v2 at *
  have key : ∀ r : Rw, okN N nt r = true → (∃ ρ, m_lsome_row [some (.int c0), some (.int salt), some (.int N), some (.int nt), none, none, none, none, none] = .ok (.rt (enR r), ρ)) → ∃ r : Rw, okN N nt r = true ∧ f_lsome_row [.int c0, .int salt, .int N, .int nt] = .ok (enR r, []) := fun r h1 h3 => ⟨r, h1, mFn_ok h3⟩
  rcases (show d0 = 0 ∨ d0 = 1 ∨ d0 = 2 ∨ d0 = 3 ∨ d0 = 4 ∨ d0 = 5 ∨ d0 = 6 ∨ d0 = 7 ∨ d0 = 8 ∨ d0 = 9 ∨ d0 = 10 ∨ d0 = 11 by omega) with rfl | rfl | rfl | rfl | rfl | rfl | rfl | rfl | rfl | rfl | rfl | rfl
  · exact key (.put aN v) (by simp [okN, lA, hv]) (by simp [m_lsome_row, hds, szOk_small, dN, nz, nz2, i1, eA, enR])
  · exact key (.copy aN bN) (by simp [okN, lA, lB]) (by simp [m_lsome_row, hds, szOk_small, dN, nz, nz2, i2, eA, eB, enR])
  · exact key (.add aN bN) (by simp [okN, lA, lB]) (by simp [m_lsome_row, hds, szOk_small, dN, nz, nz2, i3, eA, eB, enR])
  · exact key (.addc aN bN) (by simp [okN, lA, lB]) (by simp [m_lsome_row, hds, szOk_small, dN, nz, nz2, i4, eA, eB, enR])
  · exact key (.and_ aN bN) (by simp [okN, lA, lB]) (by simp [m_lsome_row, hds, szOk_small, dN, nz, nz2, i5, eA, eB, enR])
  · exact key (.or_ aN bN) (by simp [okN, lA, lB]) (by simp [m_lsome_row, hds, szOk_small, dN, nz, nz2, i6, eA, eB, enR])
  · exact key (.left aN) (by simp [okN, lA]) (by simp [m_lsome_row, hds, szOk_small, dN, nz, nz2, iL, eA, enR])
  · exact key (.right aN) (by simp [okN, lA]) (by simp [m_lsome_row, hds, szOk_small, dN, nz, nz2, iR, eA, enR])
  · by_cases ht : nt = 0
    · subst ht
      exact key (.copy aN bN) (by simp [okN, lA, lB]) (by simp [m_lsome_row, hds, szOk_small, dN, nz, nz2, i2, eA, eB, enR])
    · have dT : divOk (nt : Int) = true := divOk_small (by omega) (by omega)
      have nT : ¬ (nt : Int) = 0 := by omega
      have eT : (b : Int).fmod (nt : Int) = ((b % nt : Nat) : Int) := nat_fmod b nt
      have lT : b % nt < nt := Nat.mod_lt _ (by omega)
      generalize b % nt = bT at *
      exact key (.look aN bT) (by simp [okN, lA, lT]) (by simp [m_lsome_row, hds, szOk_small, dN, nz, nz2, dT, nT, ht, i7, eA, eT, enR])
  · exact key (.mark v2) (by simp [okN, l2]) (by simp [m_lsome_row, hds, szOk_small, dN, nz, nz2, d2', e2, enR])
  · exact key (.add aN bN) (by simp [okN, lA, lB]) (by simp [m_lsome_row, hds, szOk_small, dN, nz, nz2, i3, eA, eB, enR])
  · exact key (.left aN) (by simp [okN, lA]) (by simp [m_lsome_row, hds, szOk_small, dN, nz, nz2, iL, eA, enR])
theorem mLcO_it72 {α : Type} {it : MI} {e : ME} {v : Nat} {ρ : Env} {l : List α} (item y : α → MV) (hi : it ρ = .ok (l.map item, ρ)) (hv : ρ[v]? = some none) (he : ∀ a ∈ l, e (ρ.set v (some (item a))) = .ok (y a, ρ.set v (some (item a)))) (hz : l.length ≤ sizeLine) :
    mLcO it (.nm v) mYes e [v] ρ = .ok (.own (l.map y), ρ) := by
  have := mLcO_nm (it := it) (e := e) (v := v) (ρ := ρ) (xs := l.map item) (fun z => match e (ρ.set v (some z)) with | .ok (r, _) => r | _ => .non) hi hv (fun x hx => by
    obtain ⟨a, ha, rfl⟩ := List.mem_map.mp hx
    rw [he a ha]) (by rw [List.length_map]; exact hz)
  rw [this, List.map_map]
  congr 3
  refine List.map_congr_left fun a ha => ?_
  show (match e (ρ.set v (some (item a))) with | .ok (r, _) => r | _ => .non) = y a
  rw [he a ha]
theorem rng10 : rngM 0 1 10 = (List.range 10).map fun i : Nat => MV.int i := by
  unfold rngM
  refine List.map_congr_left fun i _ => ?_
  show MV.int _ = MV.int _
  congr 1
  omega
theorem loop_all72 {g : MG} {b : MS} {env : Option MV → Env} {P : Nat → Bool} : ∀ (l : List Nat) (r : Option MV), (∀ i ∈ l, ∀ r, g (.int (i : Nat)) (env r) = some (env (some (.int (i : Nat)))) ∧ ((P i = true → b (env (some (.int (i : Nat)))) = .ok (.nx, env (some (.int (i : Nat))))) ∧ (P i = false → b (env (some (.int (i : Nat)))) = .ok (.rt (.bl false), env (some (.int (i : Nat))))))) →
    (l.all P = true → ∃ r', mLoop g b (l.map fun i : Nat => MV.int i) (env r) = .ok (.nx, env r')) ∧ (l.all P = false → ∃ r', mLoop g b (l.map fun i : Nat => MV.int i) (env r) = .ok (.rt (.bl false), env r'))
  | [], r, _ => ⟨fun _ => ⟨r, rfl⟩, fun h => by cases h⟩
  | i :: l, r, h => by
    obtain ⟨h1, h2, h3⟩ := h i (List.mem_cons_self ..) r
    have st : mLoop g b ((i :: l).map fun i : Nat => MV.int i) (env r) = (b (env (some (.int (i : Nat))))).bind fun f ρ2 => match f with
        | .nx => mLoop g b (l.map fun i : Nat => MV.int i) ρ2
        | .ct => mLoop g b (l.map fun i : Nat => MV.int i) ρ2
        | .br => .ok (.nx, ρ2)
        | .rt v => .ok (.rt v, ρ2) := by
      (rw [List.map_cons, mLoop, h1]) <;> rfl
    rw [st, List.all_cons]
    cases e : P i with
    | true =>
      rw [h2 e]
      exact loop_all72 l _ fun j hj => h j (List.mem_cons_of_mem _ hj)
    | false =>
      rw [h3 e]
      exact ⟨fun h => (by simp at h), fun _ => ⟨_, rfl⟩⟩
def dueT (deed kd : Str) (a b : Nat) : Nat × Nat :=
  if deed = "compare" then ((if b ≤ a then 1 else 0) + (if b < a then 1 else 0), 0)
  else if deed = "difference" then (byK kd ((a + 10 - b) % 10), if a < b then 1 else 0)
  else (byK kd ((a + b) % 10), if 9 < a + b then 1 else 0)
theorem due_ofT {deed kd : Str} (hd : deed = "sum" ∨ deed = "difference" ∨ deed = "compare") (hk : kd = "packed" ∨ kd = "spread") {a b : Nat} (ha : a < 10) (hb : b < 10) :
    f_pdue_of [.str deed, .tup [.str kd, .int 1, .str "none", .int 0], .int a, .int b] = .ok (.tup [.tup [.int (dueT deed kd a b).1], .int (dueT deed kd a b).2], []) := by
  refine mFn_ok ?_
  have f1 := @foldK kd ((a : Int) + b)
  have f2 := @foldK kd ((a : Int) - (b : Int))
  obtain ⟨i, hi, hi1⟩ : ∃ i : Nat, ((a : Int) + b) % 10 = i ∧ i = (a + b) % 10 := ⟨(a + b) % 10, by omega, rfl⟩
  obtain ⟨j, hj, hj1⟩ : ∃ j : Nat, ((a : Int) - (b : Int)) % 10 = j ∧ j = (a + 10 - b) % 10 := ⟨(a + 10 - b) % 10, by omega, rfl⟩
  rw [hi] at f1
  rw [hj] at f2
  have k1 := @keptK kd hk i (by omega)
  have k2 := @keptK kd hk j (by omega)
  rcases hd with rfl | rfl | rfl
  · have dk : dueT (Str.ofString "sum") kd a b = (byK kd i, if 9 < a + b then 1 else 0) := by
      unfold dueT
      rw [if_neg (by decide +kernel), if_neg (by decide +kernel), ← hi1]
    rw [dk]
    by_cases h : 9 < a + b
    · have s1 : ¬ ((i : Int) = (a : Int) + b) := by omega
      simp [m_pdue_of, f1, k1, s1, h, szOk_small]
    · have s1 : ((i : Int) = (a : Int) + b) := by omega
      rw [← s1] at f1
      simp [m_pdue_of, ← s1, f1, k1, h, szOk_small]
  · have dk : dueT (Str.ofString "difference") kd a b = (byK kd j, if a < b then 1 else 0) := by
      unfold dueT
      rw [if_neg (by decide +kernel), if_pos rfl, ← hj1]
    rw [dk]
    by_cases h : a < b
    · have s1 : ¬ ((j : Int) = (a : Int) - b) := by omega
      simp [m_pdue_of, f2, k2, s1, h, szOk_small]
    · have s1 : ((j : Int) = (a : Int) - b) := by omega
      rw [← s1] at f2
      simp [m_pdue_of, ← s1, f2, k2, h, szOk_small]
  · have dk : dueT (Str.ofString "compare") kd a b = ((if b ≤ a then 1 else 0) + (if b < a then 1 else 0), 0) := by
      unfold dueT
      rw [if_pos rfl]
    rw [dk]
    by_cases h : b ≤ a
    · by_cases h2 : b < a
      · simp [m_pdue_of, h, h2, szOk_small]
      · simp [m_pdue_of, h, h2, szOk_small]
    · have h2 : ¬ b < a := by omega
      simp [m_pdue_of, h, h2, szOk_small]
def cells72 (kd : Str) (a b : Nat) : List Nat := byK kd a :: byK kd b :: List.replicate 254 0
theorem cells72_ok {kd : Str} {a b : Nat} (ha : a < 10) (hb : b < 10) : CellsN 256 (cells72 kd a b) := ⟨by simp [cells72], fun i => by
  have y0 : byK kd a < 256 := by unfold byK; split <;> omega
  have yb : byK kd b < 256 := by unfold byK; split <;> omega
  match i with
  | 0 => exact y0
  | 1 => exact yb
  | i + 2 =>
    show (List.replicate 254 0).getD i 0 < 256
    rw [List.getD_eq_getElem?_getD, List.getElem?_replicate]
    split <;> decide⟩
theorem cells72_enc (kd : Str) (a b : Nat) : encC (cells72 kd a b) = [.int (byK kd a : Nat), .int (byK kd b : Nat)] ++ encC (List.replicate 254 0) := rfl
def right72 (deed kd : Str) (tb : Nat → Nat → Nat) (rs : List Rw) (a b : Nat) : Bool :=
  decide (cg (runL tb rs (cells72 kd a b, 0)).1 0 = (dueT deed kd a b).1) && decide ((runL tb rs (cells72 kd a b, 0)).2 = (dueT deed kd a b).2)
def does72 (deed kd : Str) (tb : Nat → Nat → Nat) (rs : List Rw) : Bool := (List.range 10).all fun a => (List.range 10).all fun b => right72 deed kd tb rs a b
section
variable {deed kd : Str} {tb : Nat → Nat → Nat} {nt : Nat} {tabs : List MV} {rs : List Rw}
theorem does_pairT (hd : deed = "sum" ∨ deed = "difference" ∨ deed = "compare") (hk : kd = "packed" ∨ kd = "spread") (ht : TabsAre tb nt tabs) (tl : TabLt tb nt) (hr : rs.all (okN 256 nt) = true) {a b : Nat} (ha : a < 10) (hb : b < 10) :
    f_pdoes_pair [.str deed, .tup [.str kd, .int 1, .str "none", .int 0], .tup [.tup tabs, .tup (rs.map enR)], .int a, .int b] = .ok (.bl (right72 deed kd tb rs a b), []) := by
  have k0 := @keptK kd hk a ha
  have kb := @keptK kd hk b hb
  have du := @due_ofT deed kd hd hk a b ha hb
  have hc := @cells72_ok kd a b ha hb
  have wk := @work_eqL tb nt 256 tabs ht tl _ 0 hc (by decide) (by decide) rs hr
  have rc := (@run_cellsN 256 tb nt tl rs _ 0 hc (by decide) hr).1
  have cu := @cut_one (runL tb rs (cells72 kd a b, 0)).1 (by rw [rc.1]; decide)
  unfold right72
  have hC := cells72_enc kd a b
  have fm : fMul (.lst [.int 0]) (.int 254) = some (.lst (encC (List.replicate 254 0))) := by rfl
  rw [hC] at wk
  have hz : szOk (2 + (encC (List.replicate 254 0)).length) = true := szOk_small (by unfold encC; rw [List.length_map, List.length_replicate]; decide)
  generalize encC (List.replicate 254 0) = ZZ at *
  generalize cg (runL tb rs (cells72 kd a b, 0)).1 0 = g0 at *
  generalize encC (runL tb rs (cells72 kd a b, 0)).1 = CC at *
  generalize (runL tb rs (cells72 kd a b, 0)).2 = mm at *
  generalize rs.map enR = RS at *
  generalize dueT deed kd a b = D at *
  obtain ⟨D1, D2⟩ := D
  have bl : bList [.tup [.int (byK kd a : Nat), .int (byK kd b : Nat)]] = some (.lst [.int (byK kd a : Nat), .int (byK kd b : Nat)]) := rfl
  have bt : bTuple [.lst [.int (g0 : Nat)]] = some (.tup [.int (g0 : Nat)]) := rfl
  have fo := fEq_one (g0 : Nat) D1
  generalize ((byK kd a : Nat) : Int) = B0 at *
  generalize ((byK kd b : Nat) : Int) = B1 at *
  simp at k0 kb du wk cu
  refine mFn_ok ?_
  by_cases e : g0 = D1
  · subst e
    have fo : fEq (.tup [.int (g0 : Nat)]) (.tup [.int (g0 : Nat)]) = some (.bl true) := by rw [fo]; simp
    by_cases e2 : mm = D2
    · subst e2
      simp [m_pdoes_pair, -fEq_tt, k0, kb, bl, fm, wk, du, cu, bt, fo, szOk_small, hz]
    · have e3 : ¬ (mm : Int) = D2 := by omega
      simp [m_pdoes_pair, -fEq_tt, k0, kb, bl, fm, wk, du, cu, bt, fo, e2, e3, szOk_small, hz]
  · have fo : fEq (.tup [.int (g0 : Nat)]) (.tup [.int (D1 : Nat)]) = some (.bl false) := by
      rw [fo]
      have e' : ¬ (g0 : Int) = (D1 : Int) := by omega
      have : ((g0 : Int) == (D1 : Int)) = false := by simp [e']
      rw [this]
    simp [m_pdoes_pair, -fEq_tt, k0, kb, bl, fm, wk, du, cu, bt, fo, e, szOk_small, hz]
abbrev e72 (deed kd : Str) (P : MV) (F : MV) (r4 : Option MV) : Env := [some (.str deed), some (.str kd), some P, some F, r4, none]
theorem pdoesT (hd : deed = "sum" ∨ deed = "difference" ∨ deed = "compare") (hk : kd = "packed" ∨ kd = "spread") (tl : TabLt tb nt) (h16 : nt ≤ 16) (hr : rs.all (okN 256 nt) = true) (h9 : rs.length ≤ 9000) :
    f_pdoes [.str deed, .str kd, .tup [.tup (tabsOf tb nt), .tup (rs.map enR)]] = .ok (.bl (does72 deed kd tb rs), []) := by
  have ht := tabs_gen tb nt
  have hlT : ((List.range nt).map fun k => (List.range 256).map fun b => ((tb k b : Nat) : Int)).length = nt := by simp
  have ho := hold_eq 256 ((List.range nt).map fun k => (List.range 256).map fun b => ((tb k b : Nat) : Int)) (rs.map abR) (by
    intro t ht
    obtain ⟨k, _, rfl⟩ := List.mem_map.mp ht
    simp) (by rw [hlT]; omega) (by
    intro r h
    obtain ⟨q, _, rfl⟩ := List.mem_map.mp h
    exact abR_len q)
  have e1 : (rs.map abR).map enA = rs.map enR := by
    rw [List.map_map]
    exact List.map_congr_left fun r _ => enA_abR r
  have bg := @badRow_good 256 nt rs 0 (by omega) hr
  rw [e1, badTab_good _ 0 (by rw [hlT]; omega) (tabsT_ok tl), ← tabsOf_enT] at ho
  simp only [hlT] at ho
  rw [show ((256 : Int)) = ((256 : Nat) : Int) from rfl, bg] at ho
  have pr := fun a b => @does_pairT deed kd tb nt (tabsOf tb nt) rs hd hk ht tl hr a b
  have n1 : fNotIn (.str deed) (.tup [.str "sum", .str "difference", .str "compare"]) = some (.bl false) := by rcases hd with rfl | rfl | rfl <;> rfl
  have n2 : fNotIn (.str kd) (.tup [.str "packed", .str "spread"]) = some (.bl false) := by rcases hk with rfl | rfl <;> rfl
  obtain ⟨PL, hPL⟩ : ∃ PL, PL = [MV.tup (tabsOf tb nt), MV.tup (rs.map enR)] := ⟨_, rfl⟩
  rw [← hPL] at ho pr ⊢
  have ho2 : f_phold_program [.tup PL, .int 256] = .ok (.non, []) := ho
  have ir : inR 10 = true := inR_of (by decide) (by decide)
  have inner : ∀ a : Nat, a < 10 → mLcO (mR1 (mCons (mC (.int 10)) (mNil))) (.nm 5) (mYes) (mFz (mCall0 f_pdoes_pair (mCons (mVar 0) (mCons (mVar 3) (mCons (mVar 2) (mCons (mVar 4) (mCons (mVar 5) (mNil)))))))) [5] (e72 deed kd (.tup PL) (.tup [.str kd, .int 1, .str "none", .int 0]) (some (.int (a : Nat)))) = .ok (.own ((List.range 10).map fun b => MV.bl (right72 deed kd tb rs a b)), e72 deed kd (.tup PL) (.tup [.str kd, .int 1, .str "none", .int 0]) (some (.int (a : Nat)))) := fun a ha => by
    generalize hF : [MV.str kd, .int 1, .str "none", .int 0] = FL at *
    refine mLcO_it72 (l := List.range 10) (fun b : Nat => .int b) (fun b => .bl (right72 deed kd tb rs a b)) (by rw [← rng10]; simp [ir]) rfl (fun b hb => ?_) (by rw [sizeLine_eq]; simp)
    have e := pr a b ha (List.mem_range.mp hb)
    generalize right72 deed kd tb rs a b = z at *
    simp [e]
  have lp := loop_all72 (g := gSet 4) (b := b_pdoes_0) (env := fun r => e72 deed kd (.tup PL) (.tup [.str kd, .int 1, .str "none", .int 0]) r) (P := fun a => (List.range 10).all fun b => right72 deed kd tb rs a b) (List.range 10) none (fun a ha r => by
    have lc := inner a (List.mem_range.mp ha)
    have ba := ball_map (fun b => right72 deed kd tb rs a b) (List.range 10)
    generalize (List.range 10).map (fun b => MV.bl (right72 deed kd tb rs a b)) = L at *
    generalize [MV.str kd, .int 1, .str "none", .int 0] = FL at *
    refine ⟨rfl, fun h => ?_, fun h => ?_⟩
    · rw [h] at ba
      simp [b_pdoes_0, lc, ba]
    · rw [h] at ba
      simp [b_pdoes_0, lc, ba])
  refine mFn_ok ?_
  show ∃ ρ, m_pdoes [some (.str deed), some (.str kd), some (.tup PL), none, none, none] = _
  rw [← rng10] at lp
  unfold does72
  cases e : (List.range 10).all fun a => (List.range 10).all fun b => right72 deed kd tb rs a b with
  | true =>
    obtain ⟨r', l⟩ := lp.1 e
    clear lp inner pr
    exact ⟨e72 deed kd (.tup PL) (.tup [.str kd, .int 1, .str "none", .int 0]) r', by simp [m_pdoes, n1, n2, ho2, szOk_small, ir, l]⟩
  | false =>
    obtain ⟨r', l⟩ := lp.2 e
    clear lp inner pr
    exact ⟨e72 deed kd (.tup PL) (.tup [.str kd, .int 1, .str "none", .int 0]) r', by simp [m_pdoes, n1, n2, ho2, szOk_small, ir, l]⟩
end
theorem byK_zone {kd : Str} (hk : kd = "packed" ∨ kd = "spread") (a : Nat) : ((byK kd a : Nat) : Int) = 240 * (if kd = "spread" then 1 else 0) + (a : Int) := by
  rcases hk with rfl | rfl
  · have n : ¬ ((Str.ofString "packed") = Str.ofString "spread") := by decide
    unfold byK
    rw [if_pos rfl, if_neg n]
    omega
  · have n : ¬ ((Str.ofString "spread") = Str.ofString "packed") := by decide
    unfold byK
    rw [if_neg n, if_pos rfl]
    omega
section
variable {deed kd : Str} {tb : Nat → Nat → Nat} {nt : Nat} {tabs : List MV} {rs : List Rw}
theorem lpair_rightT (hd : deed = "sum" ∨ deed = "difference" ∨ deed = "compare") (hk : kd = "packed" ∨ kd = "spread") (ht : TabsAre tb nt tabs) (tl : TabLt tb nt) (hr : rs.all (okN 256 nt) = true) {a b : Nat} (ha : a < 10) (hb : b < 10) :
    f_lpair_right [.str deed, .str kd, .tup [.tup tabs, .tup (rs.map enR)], .int a, .int b] = .ok (.bl (right72 deed kd tb rs a b), []) := by
  have hc := @cells72_ok kd a b ha hb
  have wk := lrunN_eq (T := .lst) (.inl rfl) (Nat.le_refl 256) ht tl rs _ 0 hc (by decide) hr
  have rc := (@run_cellsN 256 tb nt tl rs _ 0 hc (by decide) hr).1
  have hC := cells72_enc kd a b
  have fm : fMul (.lst [.int 0]) (.int 254) = some (.lst (encC (List.replicate 254 0))) := by rfl
  have at0 : fIx (.lst (encC (runL tb rs (cells72 kd a b, 0)).1)) (.int 0) = some (.int (cg (runL tb rs (cells72 kd a b, 0)).1 0 : Nat)) := encC_at (i := 0) (by rw [rc.1]; decide)
  unfold right72
  rw [hC] at wk
  have hz : szOk (2 + (encC (List.replicate 254 0)).length) = true := szOk_small (by unfold encC; rw [List.length_map, List.length_replicate]; decide)
  have za := byK_zone hk a
  have zb := byK_zone hk b
  have z0 : fEq (.str kd) (.str "spread") = some (.bl (decide (kd = "spread"))) := by rcases hk with rfl | rfl <;> rfl
  have ml : mulOk 240 (if kd = "spread" then 1 else 0) = true := by split <;> rfl
  have zm := byK_zone hk ((a + b) % 10)
  have zd := byK_zone hk ((a + 10 - b) % 10)
  have f1 : ((a : Int) + b).fmod 10 = ((((a + b) % 10 : Nat)) : Int) := by rw [Int.fmod_eq_emod_of_nonneg _ (by decide)]; omega
  have f2 : ((a : Int) - b).fmod 10 = ((((a + 10 - b) % 10 : Nat)) : Int) := by rw [Int.fmod_eq_emod_of_nonneg _ (by decide)]; omega
  obtain ⟨Z, hZ⟩ : ∃ Z : Int, Z = 240 * (if kd = "spread" then 1 else 0) := ⟨_, rfl⟩
  have bz : bInt [.bl (decide (kd = "spread"))] = some (.int (if kd = "spread" then 1 else 0)) := by rcases hk with rfl | rfl <;> rfl
  generalize hP : [MV.tup tabs, MV.tup (rs.map enR)] = PL at *
  refine mFn_ok ?_
  show ∃ ρ, m_lpair_right [some (.str deed), some (.str kd), some (.tup PL), some (.int a), some (.int b), none, none, none] = _
  unfold m_lpair_right
  refine seq_nxE (ρ1 := [some (.str deed), some (.str kd), some (.tup PL), some (.int a), some (.int b), some (.int Z), none, none]) (by
    rw [hZ]
    simp [-fEq_ss, z0, bz, ml, -bInt_b]) ?_
  rw [← hZ] at za zb zm zd
  generalize hc0 : (runL tb rs (cells72 kd a b, 0)).1 = C1 at *
  generalize (runL tb rs (cells72 kd a b, 0)).2 = m1 at *
  rw [za, zb] at wk
  have e1 : (MV.lst ([MV.int (Z + a), MV.int (Z + b)] ++ encC (List.replicate 254 0))) = .lst (.int (Z + a) :: .int (Z + b) :: encC (List.replicate 254 0)) := rfl
  generalize encC (List.replicate 254 0) = ZZ at *
  generalize cg C1 0 = g0 at *
  generalize encC C1 = CC at *
  refine seq_nxE (ρ1 := [some (.str deed), some (.str kd), some (.tup PL), some (.int a), some (.int b), some (.int Z), some (.lst CC), some (.int m1)]) (by
    simp at wk
    simp [fm, hz, wk, szOk_small]) ?_
  refine ⟨[some (.str deed), some (.str kd), some (.tup PL), some (.int a), some (.int b), some (.int Z), some (.lst CC), some (.int m1)], ?_⟩
  rcases hd with rfl | rfl | rfl
  · have dk : dueT (Str.ofString "sum") kd a b = (byK kd ((a + b) % 10), if 9 < a + b then 1 else 0) := by
      unfold dueT
      rw [if_neg (by decide +kernel), if_neg (by decide +kernel)]
    rw [dk]
    generalize byK kd ((a + b) % 10) = w at *
    generalize (a + b) % 10 = j at *
    have zm := zm.symm
    by_cases h : 9 < a + b
    · have h' : (9 : Int) < (a : Int) + b := by omega
      rw [if_pos h]
      by_cases e1 : g0 = w <;> by_cases e2 : m1 = 1
      · have e2' : (m1 : Int) = 1 := by omega
        simp [-fIx_l, at0, f1, zm, h, h', e1, e2, e2']
      · have e2' : ¬ (m1 : Int) = 1 := by omega
        simp [-fIx_l, at0, f1, zm, h, h', e1, e2, e2']
      · have e1' : ¬ (g0 : Int) = w := by omega
        simp [-fIx_l, at0, f1, zm, h, h', e1, e1', e2]
      · have e1' : ¬ (g0 : Int) = w := by omega
        simp [-fIx_l, at0, f1, zm, h, h', e1, e1', e2]
    · have h' : ¬ (9 : Int) < (a : Int) + b := by omega
      rw [if_neg h]
      by_cases e1 : g0 = w <;> by_cases e2 : m1 = 0
      · have e2' : (m1 : Int) = 0 := by omega
        simp [-fIx_l, at0, f1, zm, h, h', e1, e2, e2']
      · have e2' : ¬ (m1 : Int) = 0 := by omega
        simp [-fIx_l, at0, f1, zm, h, h', e1, e2, e2']
      · have e1' : ¬ (g0 : Int) = w := by omega
        simp [-fIx_l, at0, f1, zm, h, h', e1, e1', e2]
      · have e1' : ¬ (g0 : Int) = w := by omega
        simp [-fIx_l, at0, f1, zm, h, h', e1, e1', e2]
  · have dk : dueT (Str.ofString "difference") kd a b = (byK kd ((a + 10 - b) % 10), if a < b then 1 else 0) := by
      unfold dueT
      rw [if_neg (by decide +kernel), if_pos rfl]
    rw [dk]
    generalize byK kd ((a + 10 - b) % 10) = w at *
    generalize (a + 10 - b) % 10 = j at *
    have zd := zd.symm
    by_cases h : a < b
    · rw [if_pos h]
      by_cases e1 : g0 = w <;> by_cases e2 : m1 = 1
      · have e2' : (m1 : Int) = 1 := by omega
        simp [-fIx_l, at0, f2, zd, h, e1, e2, e2']
      · have e2' : ¬ (m1 : Int) = 1 := by omega
        simp [-fIx_l, at0, f2, zd, h, e1, e2, e2']
      · have e1' : ¬ (g0 : Int) = w := by omega
        simp [-fIx_l, at0, f2, zd, h, e1, e1', e2]
      · have e1' : ¬ (g0 : Int) = w := by omega
        simp [-fIx_l, at0, f2, zd, h, e1, e1', e2]
    · rw [if_neg h]
      by_cases e1 : g0 = w <;> by_cases e2 : m1 = 0
      · have e2' : (m1 : Int) = 0 := by omega
        simp [-fIx_l, at0, f2, zd, h, e1, e2, e2']
      · have e2' : ¬ (m1 : Int) = 0 := by omega
        simp [-fIx_l, at0, f2, zd, h, e1, e2, e2']
      · have e1' : ¬ (g0 : Int) = w := by omega
        simp [-fIx_l, at0, f2, zd, h, e1, e1', e2]
      · have e1' : ¬ (g0 : Int) = w := by omega
        simp [-fIx_l, at0, f2, zd, h, e1, e1', e2]
  · have dk : dueT (Str.ofString "compare") kd a b = ((if b ≤ a then 1 else 0) + (if b < a then 1 else 0), 0) := by
      unfold dueT
      rw [if_pos rfl]
    rw [dk]
    by_cases h : b ≤ a
    · by_cases h2 : b < a
      · rw [if_pos h, if_pos h2]
        by_cases e1 : g0 = 2 <;> by_cases e2 : m1 = 0
        · simp [-fIx_l, at0, h, h2, e1, e2]
        · simp [-fIx_l, at0, h, h2, e1, e2]
        · have e1' : ¬ (g0 : Int) = 2 := by omega
          simp [-fIx_l, at0, h, h2, e1, e1', e2]
        · have e1' : ¬ (g0 : Int) = 2 := by omega
          simp [-fIx_l, at0, h, h2, e1, e1', e2]
      · rw [if_pos h, if_neg h2]
        by_cases e1 : g0 = 1 <;> by_cases e2 : m1 = 0
        · simp [-fIx_l, at0, h, h2, e1, e2]
        · simp [-fIx_l, at0, h, h2, e1, e2]
        · have e1' : ¬ (g0 : Int) = 1 := by omega
          simp [-fIx_l, at0, h, h2, e1, e1', e2]
        · have e1' : ¬ (g0 : Int) = 1 := by omega
          simp [-fIx_l, at0, h, h2, e1, e1', e2]
    · have h2 : ¬ b < a := by omega
      rw [if_neg h, if_neg h2]
      by_cases e1 : g0 = 0 <;> by_cases e2 : m1 = 0
      · simp [-fIx_l, at0, h, h2, e1, e2]
      · simp [-fIx_l, at0, h, h2, e1, e2]
      · have e1' : ¬ (g0 : Int) = 0 := by omega
        simp [-fIx_l, at0, h, h2, e1, e1', e2]
      · have e1' : ¬ (g0 : Int) = 0 := by omega
        simp [-fIx_l, at0, h, h2, e1, e1', e2]
abbrev l72E (deed kd : Str) (P : MV) (r3 : Option MV) : Env := [some (.str deed), some (.str kd), some P, r3, none]
theorem lright8_eq (hd : deed = "sum" ∨ deed = "difference" ∨ deed = "compare") (hk : kd = "packed" ∨ kd = "spread") (ht : TabsAre tb nt tabs) (tl : TabLt tb nt) (hr : rs.all (okN 256 nt) = true) :
    f_lright8 [.str deed, .str kd, .tup [.tup tabs, .tup (rs.map enR)]] = .ok (.bl (does72 deed kd tb rs), []) := by
  have pr := fun a b => @lpair_rightT deed kd tb nt tabs rs hd hk ht tl hr a b
  generalize hP : [MV.tup tabs, MV.tup (rs.map enR)] = PL at *
  have ir : inR 10 = true := inR_of (by decide) (by decide)
  have inner : ∀ a : Nat, a < 10 → mLcO (mR1 (mCons (mC (.int 10)) (mNil))) (.nm 4) (mYes) (mFz (mCall0 f_lpair_right (mCons (mVar 0) (mCons (mVar 1) (mCons (mVar 2) (mCons (mVar 3) (mCons (mVar 4) (mNil)))))))) [4] (l72E deed kd (.tup PL) (some (.int (a : Nat)))) = .ok (.own ((List.range 10).map fun b => MV.bl (right72 deed kd tb rs a b)), l72E deed kd (.tup PL) (some (.int (a : Nat)))) := fun a ha => by
    refine mLcO_it72 (l := List.range 10) (fun b : Nat => .int b) (fun b => .bl (right72 deed kd tb rs a b)) (by rw [← rng10]; simp [ir]) rfl (fun b hb => ?_) (by rw [sizeLine_eq]; simp)
    have e := pr a b ha (List.mem_range.mp hb)
    generalize right72 deed kd tb rs a b = z at *
    simp [e]
  have lp := loop_all72 (g := gSet 3) (b := b_lright8_0) (env := fun r => l72E deed kd (.tup PL) r) (P := fun a => (List.range 10).all fun b => right72 deed kd tb rs a b) (List.range 10) none (fun a ha r => by
    have lc := inner a (List.mem_range.mp ha)
    have ba := ball_map (fun b => right72 deed kd tb rs a b) (List.range 10)
    generalize (List.range 10).map (fun b => MV.bl (right72 deed kd tb rs a b)) = L at *
    refine ⟨rfl, fun h => ?_, fun h => ?_⟩
    · rw [h] at ba
      simp [b_lright8_0, lc, ba]
    · rw [h] at ba
      simp [b_lright8_0, lc, ba])
  refine mFn_ok ?_
  show ∃ ρ, m_lright8 [some (.str deed), some (.str kd), some (.tup PL), none, none] = _
  rw [← rng10] at lp
  unfold does72
  cases e : (List.range 10).all fun a => (List.range 10).all fun b => right72 deed kd tb rs a b with
  | true =>
    obtain ⟨r', l⟩ := lp.1 e
    clear lp inner pr
    exact ⟨l72E deed kd (.tup PL) r', by simp [m_lright8, ir, l]⟩
  | false =>
    obtain ⟨r', l⟩ := lp.2 e
    clear lp inner pr
    exact ⟨l72E deed kd (.tup PL) r', by simp [m_lright8, ir, l]⟩
end
theorem rngN72 (n : Nat) : rngM 0 1 n = (List.range n).map fun i : Nat => MV.int i := by
  unfold rngM
  refine List.map_congr_left fun i _ => ?_
  show MV.int _ = MV.int _
  congr 1
  omega
def col72 (g : Nat → Nat) : List MV := (List.range 256).map fun v : Nat => MV.int (g v)
theorem col72_len (g : Nat → Nat) : (col72 g).length = 256 := by simp [col72]
theorem col72_congr {g h : Nat → Nat} (e : ∀ v, v < 256 → g v = h v) : col72 g = col72 h := by
  unfold col72
  refine List.map_congr_left fun v hv => ?_
  show MV.int _ = MV.int _
  rw [e v (List.mem_range.mp hv)]
theorem col72_set (g : Nat → Nat) {b w : Nat} (hb : b < 256) : (col72 g).set b (.int w) = col72 (fun v => if v = b then w else g v) := by
  refine List.ext_getElem? fun k => ?_
  unfold col72
  rw [List.getElem?_set]
  by_cases e : b = k
  · subst e
    simp [hb]
  · have e' : ¬ k = b := fun h => e h.symm
    rw [if_neg e, List.getElem?_map, List.getElem?_map]
    by_cases hk : k < 256
    · rw [List.getElem?_range hk]
      simp [e']
    · rw [List.getElem?_eq_none (by simp; omega)]
      rfl
def ols72 (tb : Nat → Nat → Nat) : MV := .ols [.own (col72 (tb 0)), .own (col72 (tb 1)), .own (col72 (tb 2)), .own (col72 (tb 3))]
def own72 (deed kd : Str) (k v : Nat) : Nat :=
  if k = 0 then v % 16
  else if k = 1 then (if deed = "sum" then v % 16 else 10 - v % 16)
  else if k = 2 then (if deed = "compare" then (if 9 < v then 1 else 0) + (if 10 < v then 1 else 0) else byK kd (v % 10))
  else (if deed = "sum" then (if 9 < v then 128 else 0) else (if v < 10 then 128 else 0))
theorem own72_lt (deed kd : Str) : TabLt (own72 deed kd) 4 := fun k v hk hv => by
  have y0 : byK kd (v % 10) < 256 := by unfold byK; split <;> omega
  unfold own72
  repeat' split
  all_goals omega
theorem col_lc {e : ME} {r : Option MV} {ρ : Env} {g : Nat → Nat} (hv : (r :: ρ)[7]? = some none) (he : ∀ v : Nat, v < 256 → e ((r :: ρ).set 7 (some (.int (v : Nat)))) = .ok (.int (g v : Nat), (r :: ρ).set 7 (some (.int (v : Nat))))) :
    mLcO (mR1 (mCons (mC (.int 256)) (mNil))) (.nm 7) (mYes) e [7] (r :: ρ) = .ok (.own (col72 g), r :: ρ) := by
  have ir : inR 256 = true := inR_of (by decide) (by decide)
  exact mLcO_it72 (l := List.range 256) (fun v : Nat => .int v) (fun v : Nat => .int (g v)) (by rw [← rngN72]; simp [ir]) hv (fun v h => he v (List.mem_range.mp h)) (by rw [sizeLine_eq]; simp)
abbrev t72 (deed kd : Str) (r2 r3 r4 r5 r6 : Option MV) : Env := [some (.str deed), some (.str kd), r2, r3, r4, r5, r6, none]
theorem lown_tables_eq {deed kd : Str} (hk : kd = "packed" ∨ kd = "spread") : f_lown_tables2 [.str deed, .str kd] = .ok (ols72 (own72 deed kd), []) := by
  refine mFn_ok ?_
  show ∃ ρ, m_lown_tables2 (t72 deed kd none none none none none) = _
  have z0 : fEq (.str kd) (.str "spread") = some (.bl (decide (kd = "spread"))) := by rcases hk with rfl | rfl <;> rfl
  have bz : bInt [.bl (decide (kd = "spread"))] = some (.int (if kd = "spread" then 1 else 0)) := by rcases hk with rfl | rfl <;> rfl
  have ml : mulOk 240 (if kd = "spread" then 1 else 0) = true := by split <;> rfl
  have zb : ∀ v : Nat, (240 * (if kd = "spread" then 1 else 0) : Int) + ((v % 10 : Nat) : Int) = ((byK kd (v % 10) : Nat) : Int) := fun v => (byK_zone hk (v % 10)).symm
  obtain ⟨Z, hZ⟩ : ∃ Z : Int, Z = 240 * (if kd = "spread" then 1 else 0) := ⟨_, rfl⟩
  have f16 : ∀ v : Nat, ((v : Nat) : Int).fmod 16 = ((v % 16 : Nat) : Int) := fun v => nat_fmod v 16
  have f10 : ∀ v : Nat, ((v : Nat) : Int).fmod 10 = ((v % 10 : Nat) : Int) := fun v => nat_fmod v 10
  unfold m_lown_tables2
  refine seq_nxE (ρ1 := t72 deed kd (some (.int Z)) none none none none) (by
    rw [hZ]
    simp [-fEq_ss, -bInt_b, z0, bz, ml]) ?_
  rw [← hZ] at zb
  have c1 : ∀ r4 r5 r6, mLcO (mR1 (mCons (mC (.int 256)) (mNil))) (.nm 7) (mYes) (mOp fMod (mVar 7) (mC (.int 16))) [7] (t72 deed kd (some (.int Z)) none r4 r5 r6) = .ok (.own (col72 fun v => v % 16), t72 deed kd (some (.int Z)) none r4 r5 r6) := fun r4 r5 r6 => col_lc rfl fun v hv => by
    have f := f16 v
    generalize v % 16 = w at *
    simp [f]
  have c3 : ∀ r3 r4 r6, mLcO (mR1 (mCons (mC (.int 256)) (mNil))) (.nm 7) (mYes) (mOp fAdd (mVar 2) (mOp fMod (mVar 7) (mC (.int 10)))) [7] (t72 deed kd (some (.int Z)) r3 r4 none r6) = .ok (.own (col72 fun v => byK kd (v % 10)), t72 deed kd (some (.int Z)) r3 r4 none r6) := fun r3 r4 r6 => col_lc rfl fun v hv => by
    have f := f10 v
    have z := zb v
    generalize v % 10 = w at *
    generalize byK kd w = u at *
    simp [f, z]
  have c4 : ∀ r3 r4 r5, mLcO (mR1 (mCons (mC (.int 256)) (mNil))) (.nm 7) (mYes) (mOp fMul (mC (.int 128)) (mBlt bInt (mCons (mOp fGt (mVar 7) (mC (.int 9))) (mNil)))) [7] (t72 deed kd (some (.int Z)) r3 r4 r5 none) = .ok (.own (col72 fun v => if 9 < v then 128 else 0), t72 deed kd (some (.int Z)) r3 r4 r5 none) := fun r3 r4 r5 => col_lc rfl fun v hv => by
    by_cases h : 9 < v
    · have h' : (9 : Int) < v := by omega
      have m : mulOk 128 1 = true := rfl
      simp [h, h', m]
    · have h' : ¬ (9 : Int) < v := by omega
      have m : mulOk 128 0 = true := rfl
      simp [h, h', m]
  have c5 : ∀ r3 r5 r6 r4, mLcO (mR1 (mCons (mC (.int 256)) (mNil))) (.nm 7) (mYes) (mBlt bMax (mCons (mC (.int 0)) (mCons (mOp fSub (mC (.int 10)) (mOp fMod (mVar 7) (mC (.int 16)))) (mNil)))) [7] (t72 deed kd (some (.int Z)) r3 r4 r5 r6) = .ok (.own (col72 fun v => 10 - v % 16), t72 deed kd (some (.int Z)) r3 r4 r5 r6) := fun r3 r5 r6 r4 => col_lc rfl fun v hv => by
    have f := f16 v
    generalize v % 16 = w at *
    have mx : (if (10 : Int) - (w : Int) > 0 then (10 : Int) - (w : Int) else 0) = ((10 - w : Nat) : Int) := by split <;> omega
    generalize 10 - w = u at *
    simp [f]
    simpa using mx
  have c6 : ∀ r3 r4 r5 r6, mLcO (mR1 (mCons (mC (.int 256)) (mNil))) (.nm 7) (mYes) (mOp fMul (mC (.int 128)) (mBlt bInt (mCons (mOp fLt (mVar 7) (mC (.int 10))) (mNil)))) [7] (t72 deed kd (some (.int Z)) r3 r4 r5 r6) = .ok (.own (col72 fun v => if v < 10 then 128 else 0), t72 deed kd (some (.int Z)) r3 r4 r5 r6) := fun r3 r4 r5 r6 => col_lc rfl fun v hv => by
    by_cases h : v < 10
    · have h' : (v : Int) < 10 := by omega
      have m : mulOk 128 1 = true := rfl
      simp [h, h', m]
    · have h' : ¬ (v : Int) < 10 := by omega
      have m : mulOk 128 0 = true := rfl
      simp [h, h', m]
  have c7 : ∀ r3 r4 r5 r6, mLcO (mR1 (mCons (mC (.int 256)) (mNil))) (.nm 7) (mYes) (mOp fAdd (mBlt bInt (mCons (mOp fGt (mVar 7) (mC (.int 9))) (mNil))) (mBlt bInt (mCons (mOp fGt (mVar 7) (mC (.int 10))) (mNil)))) [7] (t72 deed kd (some (.int Z)) r3 r4 r5 r6) = .ok (.own (col72 fun v => (if 9 < v then 1 else 0) + (if 10 < v then 1 else 0)), t72 deed kd (some (.int Z)) r3 r4 r5 r6) := fun r3 r4 r5 r6 => col_lc rfl fun v hv => by
    by_cases h : 9 < v
    · have h' : (9 : Int) < v := by omega
      by_cases h2 : 10 < v
      · have h2' : (10 : Int) < v := by omega
        simp [h, h', h2, h2']
      · have h2' : ¬ (10 : Int) < v := by omega
        simp [h, h', h2, h2']
    · have h' : ¬ (9 : Int) < v := by omega
      have h2 : ¬ 10 < v := by omega
      have h2' : ¬ (10 : Int) < v := by omega
      simp [h, h', h2, h2']
  refine seq_nxE (ρ1 := t72 deed kd (some (.int Z)) (some (.own (col72 fun v => v % 16))) none none none) (by simp only [mSetO_ap, c1]; rfl) ?_
  refine seq_nxE (ρ1 := t72 deed kd (some (.int Z)) (some (.own (col72 fun v => v % 16))) (some (.own (col72 fun v => v % 16))) none none) rfl ?_
  refine seq_nxE (ρ1 := t72 deed kd (some (.int Z)) (some (.own (col72 fun v => v % 16))) (some (.own (col72 fun v => v % 16))) (some (.own (col72 fun v => byK kd (v % 10)))) none) (by simp only [mSetO_ap, c3]; rfl) ?_
  refine seq_nxE (ρ1 := t72 deed kd (some (.int Z)) (some (.own (col72 fun v => v % 16))) (some (.own (col72 fun v => v % 16))) (some (.own (col72 fun v => byK kd (v % 10)))) (some (.own (col72 fun v => if 9 < v then 128 else 0)))) (by simp only [mSetO_ap, c4]; rfl) ?_
  refine seq_nxE (ρ1 := t72 deed kd (some (.int Z)) (some (.own (col72 (own72 deed kd 0)))) (some (.own (col72 (own72 deed kd 1)))) (some (.own (col72 fun v => byK kd (v % 10)))) (some (.own (col72 (own72 deed kd 3))))) ?_ ?_
  · by_cases hs : deed = "sum"
    · have e1 : col72 (own72 deed kd 1) = col72 fun v => v % 16 := col72_congr fun v _ => by unfold own72; rw [if_neg (by decide), if_pos rfl, if_pos hs]
      have e3 : col72 (own72 deed kd 3) = col72 fun v => if 9 < v then 128 else 0 := col72_congr fun v _ => by unfold own72; rw [if_neg (by decide), if_neg (by decide), if_neg (by decide), if_pos hs]
      have e0 : col72 (own72 deed kd 0) = col72 fun v => v % 16 := rfl
      rw [e0, e1, e3]
      generalize col72 (fun v => v % 16) = A at *
      generalize col72 (fun v => if 9 < v then 128 else 0) = B at *
      simp [hs]
    · have e1 : col72 (own72 deed kd 1) = col72 fun v => 10 - v % 16 := col72_congr fun v _ => by unfold own72; rw [if_neg (by decide), if_pos rfl, if_neg hs]
      have e3 : col72 (own72 deed kd 3) = col72 fun v => if v < 10 then 128 else 0 := col72_congr fun v _ => by unfold own72; rw [if_neg (by decide), if_neg (by decide), if_neg (by decide), if_neg hs]
      have e0 : col72 (own72 deed kd 0) = col72 fun v => v % 16 := rfl
      rw [e0, e1, e3]
      have tst : ∀ A B : MS, mIfS (mTest (mOp fNe (mVar 0) (mC (.str "sum")))) A B (t72 deed kd (some (.int Z)) (some (.own (col72 fun v => v % 16))) (some (.own (col72 fun v => v % 16))) (some (.own (col72 fun v => byK kd (v % 10)))) (some (.own (col72 fun v => if 9 < v then 128 else 0)))) = A (t72 deed kd (some (.int Z)) (some (.own (col72 fun v => v % 16))) (some (.own (col72 fun v => v % 16))) (some (.own (col72 fun v => byK kd (v % 10)))) (some (.own (col72 fun v => if 9 < v then 128 else 0)))) := fun A B => by
        generalize col72 (fun v => v % 16) = A1 at *
        generalize col72 (fun v => if 9 < v then 128 else 0) = B1 at *
        generalize col72 (fun v => byK kd (v % 10)) = C1 at *
        simp [hs]
      rw [tst]
      refine seq_nx (ρ1 := t72 deed kd (some (.int Z)) (some (.own (col72 fun v => v % 16))) (some (.own (col72 fun v => 10 - v % 16))) (some (.own (col72 fun v => byK kd (v % 10)))) (some (.own (col72 fun v => if 9 < v then 128 else 0)))) (by simp only [mSetO_ap, c5]; rfl) ?_
      simp only [mSetO_ap, c6]
      rfl
  refine seq_nxE (ρ1 := t72 deed kd (some (.int Z)) (some (.own (col72 (own72 deed kd 0)))) (some (.own (col72 (own72 deed kd 1)))) (some (.own (col72 (own72 deed kd 2)))) (some (.own (col72 (own72 deed kd 3))))) ?_ ⟨_, rfl⟩
  by_cases hc : deed = "compare"
  · have e2 : col72 (own72 deed kd 2) = col72 fun v => (if 9 < v then 1 else 0) + (if 10 < v then 1 else 0) := col72_congr fun v _ => by unfold own72; rw [if_neg (by decide), if_neg (by decide), if_pos rfl, if_pos hc]
    rw [e2]
    have tst : ∀ A B : MS, ∀ S0 S1 S2 S3 : List MV, mIfS (mTest (mOp fEq (mVar 0) (mC (.str "compare")))) A B (t72 deed kd (some (.int Z)) (some (.own S0)) (some (.own S1)) (some (.own S2)) (some (.own S3))) = A (t72 deed kd (some (.int Z)) (some (.own S0)) (some (.own S1)) (some (.own S2)) (some (.own S3))) := fun A B S0 S1 S2 S3 => by simp [hc]
    rw [tst]
    simp only [mSetO_ap, c7]
    rfl
  · have e2 : col72 (own72 deed kd 2) = col72 fun v => byK kd (v % 10) := col72_congr fun v _ => by unfold own72; rw [if_neg (by decide), if_neg (by decide), if_pos rfl, if_neg hc]
    rw [e2]
    have tst : ∀ A B : MS, ∀ S0 S1 S2 S3 : List MV, mIfS (mTest (mOp fEq (mVar 0) (mC (.str "compare")))) A B (t72 deed kd (some (.int Z)) (some (.own S0)) (some (.own S1)) (some (.own S2)) (some (.own S3))) = B (t72 deed kd (some (.int Z)) (some (.own S0)) (some (.own S1)) (some (.own S2)) (some (.own S3))) := fun A B S0 S1 S2 S3 => by simp [hc]
    rw [tst]
    rfl
def rows72 (deed : Str) : List Rw := [.look 0 0, .look 1 1, .add 0 1, .copy 1 0, .look 0 2, .look 1 3] ++ (if deed = "compare" then [.mark 0] else [.left 1])
theorem rows72_ok (deed : Str) : (rows72 deed).all (okN 256 4) = true ∧ (rows72 deed).length = 7 := by
  unfold rows72
  split <;> exact ⟨by decide, rfl⟩
theorem lown_rows_eq (deed : Str) : f_lown_rows2 [.str deed] = .ok (.own ((rows72 deed).map enR), []) := by
  refine mFn_ok ⟨[some (.str deed), some (.lst [.tup [.str "look", .int 0, .int 0], .tup [.str "look", .int 1, .int 1], .tup [.str "add", .int 0, .int 1], .tup [.str "copy", .int 1, .int 0], .tup [.str "look", .int 0, .int 2], .tup [.str "look", .int 1, .int 3]])], ?_⟩
  show m_lown_rows2 [some (.str deed), none] = _
  unfold rows72
  by_cases hc : deed = "compare"
  · rw [if_pos hc]
    simp [m_lown_rows2, hc, szOk_small, enR, mOpO, fAddL]
  · rw [if_neg hc]
    simp [m_lown_rows2, hc, szOk_small, enR, mOpO, fAddL]
theorem two_nx72 {m : MS} {n : Nat} {as : List MV} {D E D' E' : MV} (h : ∃ ρ, m (some D :: some E :: (as.map some ++ List.replicate (n - (as.length + 2)) none)) = .ok (.nx, some D' :: some E' :: ρ)) : mFn n [0, 1] m (D :: E :: as) = .ok (.non, [some D', some E']) := by
  obtain ⟨ρ, h⟩ := h
  show (match m (some D :: some E :: (as.map some ++ List.replicate (n - (as.length + 2)) none)) with | .ok (.rt v, ρ) => _ | .ok (.nx, ρ) => _ | .exc e ρ => _ | _ => _) = _
  rw [h]
  rfl
theorem popAt72 {rs : List Rw} {k : Nat} {y : Rw} (h : rs[k]? = some y) (hl : rs.length < 100000) : lmPopAt (rs.map enR) [.int k] = some ((rs.eraseIdx k).map enR, enR y) := by
  have lt := (List.getElem?_eq_some_iff.mp h).1
  unfold lmPopAt
  have si : seqIndex? (k : Int) (rs.map enR).length = some k := by
    unfold seqIndex?
    rw [List.length_map]
    simp; omega
  have e : (rs.map enR)[k]? = some (enR y) := by rw [List.getElem?_map, h]; rfl
  have b : (decide (-(2 ^ 63) ≤ (k : Int)) && decide ((k : Int) < 2 ^ 63)) = true := by
    rw [Bool.and_eq_true, decide_eq_true_eq, decide_eq_true_eq]
    have : (2 : Int) ^ 63 = 9223372036854775808 := by decide
    omega
  show (if (decide (-(2 ^ 63) ≤ (k : Int)) && decide ((k : Int) < 2 ^ 63)) = true then (match seqIndex? (k : Int) (rs.map enR).length with
    | some k => (match (rs.map enR)[k]? with | some y => some ((rs.map enR).eraseIdx k, y) | none => none)
    | none => none) else none) = _
  rw [b, if_pos rfl, si]
  simp only [e]
  rw [List.eraseIdx_eq_take_drop_succ, List.eraseIdx_eq_take_drop_succ, List.map_append, List.map_take, List.map_drop]
theorem insert72 {rs : List Rw} {i : Nat} {y : Rw} (hl : rs.length < 100000) (hi : i < 100000) : lmInsert (rs.map enR) [.int i, enR y] = some ((rs.take i ++ [y] ++ rs.drop i).map enR, .non) := by
  unfold lmInsert
  have b : (decide (0 ≤ (i : Int)) && decide ((i : Int) < 2 ^ 63) && decide ((rs.map enR).length < sizeLine)) = true := by
    rw [Bool.and_eq_true, Bool.and_eq_true, decide_eq_true_eq, decide_eq_true_eq, decide_eq_true_eq]
    have : (2 : Int) ^ 63 = 9223372036854775808 := by decide
    rw [List.length_map, sizeLine_eq]
    omega
  show (if (decide (0 ≤ (i : Int)) && decide ((i : Int) < 2 ^ 63) && decide ((rs.map enR).length < sizeLine)) = true then some ((rs.map enR).take (i : Int).toNat ++ [enR y] ++ (rs.map enR).drop (i : Int).toNat, MV.non) else none) = _
  rw [if_pos b, Int.toNat_natCast]
  simp only [List.map_append, List.map_take, List.map_drop, List.map_cons, List.map_nil]
theorem ok_ins72 {rs : List Rw} {y : Rw} {i N nt : Nat} (h : rs.all (okN N nt) = true) (hy : okN N nt y = true) : (rs.take i ++ [y] ++ rs.drop i).all (okN N nt) = true := by
  rw [List.all_eq_true] at h ⊢
  intro r hr
  rw [List.mem_append, List.mem_append, List.mem_singleton] at hr
  rcases hr with (hr | rfl) | hr
  · exact h r (List.mem_of_mem_take hr)
  · exact hy
  · exact h r (List.mem_of_mem_drop hr)
theorem ok_del72 {rs : List Rw} {k N nt : Nat} (h : rs.all (okN N nt) = true) : (rs.eraseIdx k).all (okN N nt) = true := by
  rw [List.all_eq_true] at h ⊢
  exact fun r hr => h r (List.mem_of_mem_eraseIdx hr)
def more72 : Rw → Rw
  | .put a v => .put a ((v + 1) % 256)
  | .copy a b => .copy a ((b + 1) % 256)
  | .look a k => .look a ((k + 1) % 4)
  | .add a b => .add a ((b + 1) % 256)
  | .addc a b => .addc a ((b + 1) % 256)
  | .and_ a b => .and_ a ((b + 1) % 256)
  | .or_ a b => .or_ a ((b + 1) % 256)
  | .left a => .left ((a + 1) % 256)
  | .right a => .right ((a + 1) % 256)
  | .mark _ => .mark 1
theorem more72_ok {r : Rw} (h : okN 256 4 r = true) : okN 256 4 (more72 r) = true := by
  have m : ∀ n : Nat, n % 256 < 256 := fun n => Nat.mod_lt _ (by decide)
  have m4 : ∀ n : Nat, n % 4 < 4 := fun n => Nat.mod_lt _ (by decide)
  cases r <;> simp [okN, more72, m, m4] at h ⊢ <;> first | exact h | exact h.1 | trivial
theorem set72 (rs : List Rw) (k : Nat) (y : Rw) : (rs.map enR).set k (enR y) = (rs.set k y).map enR := (List.map_set ..).symm
theorem ok_set72 {rs : List Rw} {y : Rw} {k N nt : Nat} (h : rs.all (okN N nt) = true) (hy : okN N nt y = true) : (rs.set k y).all (okN N nt) = true := by
  rw [List.all_eq_true] at h ⊢
  intro r hr
  rcases List.mem_or_eq_of_mem_set hr with hr | rfl
  · exact h r hr
  · exact hy
abbrev s72 (T : MV) (R : List MV) (way at_ to byte : Nat) (row : MV) : Env := [some T, some (.own R), some (.int way), some (.int at_), some (.int to), some (.int byte), some row]
theorem ixV72 {T row : MV} {rs : List Rw} {way k to byte : Nat} {y : Rw} (h : rs[k]? = some y) : ixV (s72 T (rs.map enR) way k to byte row) 1 (.int k) = some (enR y) := by
  have lt := (List.getElem?_eq_some_iff.mp h).1
  show ixL (rs.map enR) (.int k) = _
  show atI (rs.map enR) (k : Int) = _
  rw [atI_ge (by omega), Int.toNat_natCast, List.getElem?_map, h]
  rfl
abbrev way4 : MS := mIfS (mTest (mOp fEq (mOp fIx (mIxV 1 (mVar 3)) (mC (.int 0))) (mC (.str "mark")))) (mSetIx 1 (mTup (mCons (mC (.str "mark")) (mCons (mC (.int 1)) (mNil)))) (mVar 3)) (mIfS (mTest (mOp fEq (mOp fIx (mIxV 1 (mVar 3)) (mC (.int 0))) (mC (.str "look")))) (mSetIx 1 (mTup (mCons (mC (.str "look")) (mCons (mOp fIx (mIxV 1 (mVar 3)) (mC (.int 1))) (mCons (mOp fMod (mOp fAdd (mOp fIx (mIxV 1 (mVar 3)) (mC (.int 2))) (mC (.int 1))) (mC (.int 4))) (mNil))))) (mVar 3)) (mSetIx 1 (mOp fAdd (mSl (mIxV 1 (mVar 3)) (mNo) (mPart (mUn fNeg (mC (.int 1))))) (mTup (mCons (mOp fMod (mOp fAdd (mOp fIx (mIxV 1 (mVar 3)) (mUn fNeg (mC (.int 1)))) (mC (.int 1))) (mC (.int 256))) (mNil)))) (mVar 3)))
theorem way4_ok {T row : MV} {rs : List Rw} {way k to byte : Nat} {y : Rw} (h : rs[k]? = some y) (hl : rs.length < 100000) :
    way4 (s72 T (rs.map enR) way k to byte row) = .ok (.nx, s72 T ((rs.set k (more72 y)).map enR) way k to byte row) := by
  have lt := (List.getElem?_eq_some_iff.mp h).1
  have ix := ixV72 (T := T) (row := row) (way := way) (to := to) (byte := byte) h
  have st : ∀ z : MV, setIxM 1 z (.int k) (s72 T (rs.map enR) way k to byte row) = .ok (.nx, s72 T ((rs.map enR).set k z) way k to byte row) := fun z => by
    rw [setIxM_o (xs := rs.map enR) (j := k) rfl (by rw [List.length_map, ixN_at ⟨by omega, by omega⟩, Int.toNat_natCast])]
    rfl
  rw [← set72]
  generalize rs.map enR = R at *
  have f1 : ∀ v : Nat, ((v : Int) + 1).fmod 256 = (((v + 1) % 256 : Nat) : Int) := fun v => nat_fmod (v + 1) 256
  have f4 : ∀ v : Nat, ((v : Int) + 1).fmod 4 = (((v + 1) % 4 : Nat) : Int) := fun v => nat_fmod (v + 1) 4
  have cut3 : ∀ a b c : MV, cutM [a, b, c] none (some (-1)) = [a, b] := fun _ _ _ => rfl
  have cut2 : ∀ a b : MV, cutM [a, b] none (some (-1)) = [a] := fun _ _ => rfl
  have n3 : ∀ a b c : MV, fIx (.tup [a, b, c]) (.int (-1)) = some c := fun _ _ _ => rfl
  have n2 : ∀ a b : MV, fIx (.tup [a, b]) (.int (-1)) = some b := fun _ _ => rfl
  have i30 : ∀ a b c : MV, fIx (.tup [a, b, c]) (.int 0) = some a := fun _ _ _ => rfl
  have i31 : ∀ a b c : MV, fIx (.tup [a, b, c]) (.int 1) = some b := fun _ _ _ => rfl
  have i32 : ∀ a b c : MV, fIx (.tup [a, b, c]) (.int 2) = some c := fun _ _ _ => rfl
  have i20 : ∀ a b : MV, fIx (.tup [a, b]) (.int 0) = some a := fun _ _ => rfl
  unfold s72 at st ix ⊢
  cases y with
  | put a v =>
    have f := f1 v
    simp only [enR, more72] at ix ⊢
    generalize (v + 1) % 256 = w at *
    simp [way4, -fIx_t, ix, st, f, cut3, n3, i30, szOk_small]
  | copy a v =>
    have f := f1 v
    simp only [enR, more72] at ix ⊢
    generalize (v + 1) % 256 = w at *
    simp [way4, -fIx_t, ix, st, f, cut3, n3, i30, szOk_small]
  | look a v =>
    have f := f4 v
    simp only [enR, more72] at ix ⊢
    generalize (v + 1) % 4 = w at *
    simp [way4, -fIx_t, ix, st, f, i30, i31, i32, szOk_small]
  | add a v =>
    have f := f1 v
    simp only [enR, more72] at ix ⊢
    generalize (v + 1) % 256 = w at *
    simp [way4, -fIx_t, ix, st, f, cut3, n3, i30, szOk_small]
  | addc a v =>
    have f := f1 v
    simp only [enR, more72] at ix ⊢
    generalize (v + 1) % 256 = w at *
    simp [way4, -fIx_t, ix, st, f, cut3, n3, i30, szOk_small]
  | and_ a v =>
    have f := f1 v
    simp only [enR, more72] at ix ⊢
    generalize (v + 1) % 256 = w at *
    simp [way4, -fIx_t, ix, st, f, cut3, n3, i30, szOk_small]
  | or_ a v =>
    have f := f1 v
    simp only [enR, more72] at ix ⊢
    generalize (v + 1) % 256 = w at *
    simp [way4, -fIx_t, ix, st, f, cut3, n3, i30, szOk_small]
  | left v =>
    have f := f1 v
    simp only [enR, more72] at ix ⊢
    generalize (v + 1) % 256 = w at *
    simp [way4, -fIx_t, ix, st, f, cut2, n2, i20, szOk_small]
  | right v =>
    have f := f1 v
    simp only [enR, more72] at ix ⊢
    generalize (v + 1) % 256 = w at *
    simp [way4, -fIx_t, ix, st, f, cut2, n2, i20, szOk_small]
  | mark v =>
    simp only [enR, more72] at ix ⊢
    simp [way4, -fIx_t, ix, st, i20, szOk_small]
theorem tab_spoilt72 {tb : Nat → Nat → Nat} {R : List MV} {at_ to byte : Nat} {row : MV} (tl : TabLt tb 4) (hb : byte < 256) : ∃ tb' : Nat → Nat → Nat, TabLt tb' 4 ∧
    mSetL 0 (mOp fMod (mOp fAdd (mOp fAdd (mIxL 0 (mOp fMod (mVar 4) (mC (.int 4))) 5) (mC (.int 1))) (mVar 3)) (mC (.int 256))) (mOp fMod (mVar 4) (mC (.int 4))) 5 (s72 (ols72 tb) R 0 at_ to byte row) = .ok (.nx, s72 (ols72 tb') R 0 at_ to byte row) := by
  have f4 : ((to : Nat) : Int).fmod 4 = ((to % 4 : Nat) : Int) := nat_fmod to 4
  have h4 : to % 4 = 0 ∨ to % 4 = 1 ∨ to % 4 = 2 ∨ to % 4 = 3 := by omega
  have fw : ∀ x : Nat, ((x : Int) + 1 + at_).fmod 256 = (((x + 1 + at_) % 256 : Nat) : Int) := fun x => nat_fmod (x + 1 + at_) 256
  have ta : ∀ g : Nat → Nat, atI (col72 g) (byte : Int) = some (.int (g byte)) := fun g => tab_at hb
  have ib : ∀ g : Nat → Nat, ixN (col72 g).length (byte : Int) = some byte := fun g => by rw [col72_len, ixN_at ⟨by omega, by omega⟩, Int.toNat_natCast]
  have key : ∀ j : Nat, j < 4 → ∀ w : Nat, w < 256 → TabLt (fun k v => if k = j then (if v = byte then w else tb j v) else tb k v) 4 := fun j hj w hw k v hk hv => by
    show (if k = j then (if v = byte then w else tb j v) else tb k v) < 256
    split
    · split
      · exact hw
      · exact tl j v hj hv
    · exact tl k v hk hv
  rcases h4 with h | h | h | h
  · rw [h] at f4
    have hw : (tb 0 byte + 1 + at_) % 256 < 256 := Nat.mod_lt _ (by decide)
    refine ⟨_, key 0 (by decide) _ hw, ?_⟩
    have f := fw (tb 0 byte)
    have sw := @col72_set (tb 0) byte ((tb 0 byte + 1 + at_) % 256) hb
    have t0 := ta (tb 0)
    have i0 := ib (tb 0)
    generalize (tb 0 byte + 1 + at_) % 256 = w at *
    have e0 : ols72 (fun k v => if k = 0 then (if v = byte then w else tb 0 v) else tb k v) = .ols [.own (col72 fun v => if v = byte then w else tb 0 v), .own (col72 (tb 1)), .own (col72 (tb 2)), .own (col72 (tb 3))] := rfl
    rw [e0, ← sw]
    unfold ols72
    generalize tb 0 byte = x at *
    generalize col72 (tb 0) = C0 at *
    generalize col72 (tb 1) = C1 at *
    generalize col72 (tb 2) = C2 at *
    generalize col72 (tb 3) = C3 at *
    have ol : ∀ r1 r2 r3 r4 r6, olAtI [some (.ols [.own C0, .own C1, .own C2, .own C3]), r1, r2, r3, r4, some (.int byte), r6] 0 5 (.int 0) = some ([.own C0, .own C1, .own C2, .own C3], 0, C0, (byte : Int)) := fun _ _ _ _ _ => rfl
    simp [f4, ol, t0, i0, f]
  · rw [h] at f4
    have hw : (tb 1 byte + 1 + at_) % 256 < 256 := Nat.mod_lt _ (by decide)
    refine ⟨_, key 1 (by decide) _ hw, ?_⟩
    have f := fw (tb 1 byte)
    have sw := @col72_set (tb 1) byte ((tb 1 byte + 1 + at_) % 256) hb
    have t0 := ta (tb 1)
    have i0 := ib (tb 1)
    generalize (tb 1 byte + 1 + at_) % 256 = w at *
    have e0 : ols72 (fun k v => if k = 1 then (if v = byte then w else tb 1 v) else tb k v) = .ols [.own (col72 (tb 0)), .own (col72 fun v => if v = byte then w else tb 1 v), .own (col72 (tb 2)), .own (col72 (tb 3))] := rfl
    rw [e0, ← sw]
    unfold ols72
    generalize tb 1 byte = x at *
    generalize col72 (tb 0) = C0 at *
    generalize col72 (tb 1) = C1 at *
    generalize col72 (tb 2) = C2 at *
    generalize col72 (tb 3) = C3 at *
    have ol : ∀ r1 r2 r3 r4 r6, olAtI [some (.ols [.own C0, .own C1, .own C2, .own C3]), r1, r2, r3, r4, some (.int byte), r6] 0 5 (.int 1) = some ([.own C0, .own C1, .own C2, .own C3], 1, C1, (byte : Int)) := fun _ _ _ _ _ => rfl
    simp [f4, ol, t0, i0, f]
  · rw [h] at f4
    have hw : (tb 2 byte + 1 + at_) % 256 < 256 := Nat.mod_lt _ (by decide)
    refine ⟨_, key 2 (by decide) _ hw, ?_⟩
    have f := fw (tb 2 byte)
    have sw := @col72_set (tb 2) byte ((tb 2 byte + 1 + at_) % 256) hb
    have t0 := ta (tb 2)
    have i0 := ib (tb 2)
    generalize (tb 2 byte + 1 + at_) % 256 = w at *
    have e0 : ols72 (fun k v => if k = 2 then (if v = byte then w else tb 2 v) else tb k v) = .ols [.own (col72 (tb 0)), .own (col72 (tb 1)), .own (col72 fun v => if v = byte then w else tb 2 v), .own (col72 (tb 3))] := rfl
    rw [e0, ← sw]
    unfold ols72
    generalize tb 2 byte = x at *
    generalize col72 (tb 0) = C0 at *
    generalize col72 (tb 1) = C1 at *
    generalize col72 (tb 2) = C2 at *
    generalize col72 (tb 3) = C3 at *
    have ol : ∀ r1 r2 r3 r4 r6, olAtI [some (.ols [.own C0, .own C1, .own C2, .own C3]), r1, r2, r3, r4, some (.int byte), r6] 0 5 (.int 2) = some ([.own C0, .own C1, .own C2, .own C3], 2, C2, (byte : Int)) := fun _ _ _ _ _ => rfl
    simp [f4, ol, t0, i0, f]
  · rw [h] at f4
    have hw : (tb 3 byte + 1 + at_) % 256 < 256 := Nat.mod_lt _ (by decide)
    refine ⟨_, key 3 (by decide) _ hw, ?_⟩
    have f := fw (tb 3 byte)
    have sw := @col72_set (tb 3) byte ((tb 3 byte + 1 + at_) % 256) hb
    have t0 := ta (tb 3)
    have i0 := ib (tb 3)
    generalize (tb 3 byte + 1 + at_) % 256 = w at *
    have e0 : ols72 (fun k v => if k = 3 then (if v = byte then w else tb 3 v) else tb k v) = .ols [.own (col72 (tb 0)), .own (col72 (tb 1)), .own (col72 (tb 2)), .own (col72 fun v => if v = byte then w else tb 3 v)] := rfl
    rw [e0, ← sw]
    unfold ols72
    generalize tb 3 byte = x at *
    generalize col72 (tb 0) = C0 at *
    generalize col72 (tb 1) = C1 at *
    generalize col72 (tb 2) = C2 at *
    generalize col72 (tb 3) = C3 at *
    have ol : ∀ r1 r2 r3 r4 r6, olAtI [some (.ols [.own C0, .own C1, .own C2, .own C3]), r1, r2, r3, r4, some (.int byte), r6] 0 5 (.int 3) = some ([.own C0, .own C1, .own C2, .own C3], 3, C3, (byte : Int)) := fun _ _ _ _ _ => rfl
    simp [f4, ol, t0, i0, f]
theorem lspoilt_ok {tb : Nat → Nat → Nat} {rs : List Rw} {row : Rw} {way at_ to byte : Nat} (tl : TabLt tb 4) (hr : rs.all (okN 256 4) = true) (hl : 2 ≤ rs.length ∧ rs.length ≤ 1000) (hrow : okN 256 4 row = true) (hw : way < 6) (hb : byte < 256) (hto : to < 1000) :
    ∃ (tb' : Nat → Nat → Nat) (rs' : List Rw), TabLt tb' 4 ∧ rs'.all (okN 256 4) = true ∧ rs'.length ≤ rs.length + 1 ∧
      f_lspoilt6 [ols72 tb, .own (rs.map enR), .int way, .int at_, .int to, .int byte, enR row] = .ok (.non, [some (ols72 tb'), some (.own (rs'.map enR))]) := by
  have fa : ((at_ : Nat) : Int).fmod (rs.length : Int) = ((at_ % rs.length : Nat) : Int) := nat_fmod _ _
  have ha : at_ % rs.length < rs.length := Nat.mod_lt _ (by omega)
  have nz : ¬ (rs.length : Int) = 0 := by omega
  have nz' : ¬ rs = [] := fun h => by rw [h] at hl; simp at hl
  have lm : (rs.map enR).length = rs.length := List.length_map ..
  have sz : szOk rs.length = true := szOk_small (by omega)
  obtain ⟨y, hy⟩ : ∃ y, rs[at_ % rs.length]? = some y := ⟨_, List.getElem?_eq_getElem ha⟩
  have oy : okN 256 4 y = true := List.all_eq_true.mp hr y (List.mem_of_getElem? hy)
  have ft1 : ((to : Nat) : Int).fmod ((rs.length : Int) + 1) = ((to % (rs.length + 1) : Nat) : Int) := nat_fmod to (rs.length + 1)
  have ft2 : ((to : Nat) : Int).fmod (rs.length : Int) = ((to % rs.length : Nat) : Int) := nat_fmod to rs.length
  have b1 : to % (rs.length + 1) < rs.length + 1 := Nat.mod_lt _ (by omega)
  have b2 : to % rs.length < rs.length := Nat.mod_lt _ (by omega)
  generalize at_ % rs.length = k at *
  generalize to % (rs.length + 1) = i1 at *
  generalize to % rs.length = i2 at *
  -- the end, from what the ways make
  have fin : ∀ (tb' : Nat → Nat → Nat) (rs' : List Rw), TabLt tb' 4 → rs'.all (okN 256 4) = true → rs'.length ≤ rs.length + 1 →
      (mIfS (mTest (mOp fEq (mVar 2) (mC (.int 0)))) (mSetL 0 (mOp fMod (mOp fAdd (mOp fAdd (mIxL 0 (mOp fMod (mVar 4) (mC (.int 4))) 5) (mC (.int 1))) (mVar 3)) (mC (.int 256))) (mOp fMod (mVar 4) (mC (.int 4))) 5) (mIfS (mTest (mOp fEq (mVar 2) (mC (.int 1)))) (mDrop (mLm lmPopAt 1 (mCons (mVar 3) (mNil)))) (mIfS (mTest (mOp fEq (mVar 2) (mC (.int 2)))) (mDrop (mLm lmInsert 1 (mCons (mOp fMod (mVar 4) (mOp fAdd (mLenV 1) (mC (.int 1)))) (mCons (mIxV 1 (mVar 3)) (mNil))))) (mIfS (mTest (mOp fEq (mVar 2) (mC (.int 3)))) (mDrop (mLm lmInsert 1 (mCons (mOp fMod (mVar 4) (mLenV 1)) (mCons (mLm lmPopAt 1 (mCons (mVar 3) (mNil))) (mNil))))) (mIfS (mTest (mOp fEq (mVar 2) (mC (.int 4)))) way4 (mIfS (mTest (mOp fEq (mVar 2) (mC (.int 5)))) (mDrop (mLm lmInsert 1 (mCons (mOp fMod (mVar 4) (mOp fAdd (mLenV 1) (mC (.int 1)))) (mCons (mVar 6) (mNil))))) (mPass))))))) (s72 (ols72 tb) (rs.map enR) way k to byte (enR row)) = .ok (.nx, s72 (ols72 tb') (rs'.map enR) way k to byte (enR row)) →
      ∃ (tb' : Nat → Nat → Nat) (rs' : List Rw), TabLt tb' 4 ∧ rs'.all (okN 256 4) = true ∧ rs'.length ≤ rs.length + 1 ∧
      f_lspoilt6 [ols72 tb, .own (rs.map enR), .int way, .int at_, .int to, .int byte, enR row] = .ok (.non, [some (ols72 tb'), some (.own (rs'.map enR))]) := fun tb' rs' h1 h2 h3 h4 => by
    refine ⟨tb', rs', h1, h2, h3, two_nx72 (as := [.int way, .int at_, .int to, .int byte, enR row]) ⟨[some (.int way), some (.int k), some (.int to), some (.int byte), some (enR row)], ?_⟩⟩
    show m_lspoilt6 (s72 (ols72 tb) (rs.map enR) way at_ to byte (enR row)) = _
    unfold m_lspoilt6
    refine seq_nx (ρ1 := s72 (ols72 tb) (rs.map enR) way k to byte (enR row)) ?_ h4
    unfold ols72
    generalize rs.map enR = R at *
    simp [lm, sz, fa, nz, nz']
  have st : ∀ (r : MV) (ρ : Env), True := fun _ _ => trivial
  have hi : ∀ xs : List MV, isOwn (s72 (ols72 tb) xs way k to byte (enR row)) 1 = true := fun xs => isOwn_o rfl
  have lmM_ok : ∀ (f : List MV → List MV → Option (List MV × MV)) (xs zs : List MV) (ys : List MV) (z : MV), f xs ys = some (zs, z) → lmM f 1 ys (s72 (ols72 tb) xs way k to byte (enR row)) = .ok (z, s72 (ols72 tb) zs way k to byte (enR row)) := fun f xs zs ys z h => by
    unfold lmM
    show (match f xs ys with | some (zs, z) => _ | none => _) = _
    rw [h]
    rfl
  have ww : way = 0 ∨ way = 1 ∨ way = 2 ∨ way = 3 ∨ way = 4 ∨ way = 5 := by omega
  have pop := popAt72 hy (by omega)
  have ixy := ixV72 (T := ols72 tb) (row := enR row) (way := way) (to := to) (byte := byte) hy
  have ins1 := insert72 (rs := rs) (i := i1) (y := y) (by omega) (by omega)
  have ins5 := insert72 (rs := rs) (i := i1) (y := row) (by omega) (by omega)
  have el : (rs.eraseIdx k).length = rs.length - 1 := by rw [List.length_eraseIdx, if_pos ha]
  have ins3 := insert72 (rs := rs.eraseIdx k) (i := i2) (y := y) (by omega) (by omega)
  obtain ⟨TT, hTT⟩ : ∃ TT, ols72 tb = .ols TT := ⟨_, rfl⟩
  obtain ⟨RR, hRR⟩ : ∃ RR, enR row = .tup RR := by cases row <;> exact ⟨_, rfl⟩
  obtain ⟨YY, hYY⟩ : ∃ YY, enR y = .tup YY := by cases y <;> exact ⟨_, rfl⟩
  rw [hYY] at pop ins1 ins3 ixy
  rcases ww with rfl | rfl | rfl | rfl | rfl | rfl
  · obtain ⟨tb', t1, t2⟩ := tab_spoilt72 (R := rs.map enR) (at_ := k) (to := to) (row := enR row) tl hb
    refine fin tb' rs t1 hr (by omega) ?_
    rw [← t2]
    generalize rs.map enR = R at *
    generalize mSetL 0 _ _ 5 = M at *
    rw [hTT, hRR]
    simp
    rfl
  · refine fin tb (rs.eraseIdx k) tl (ok_del72 hr) (by omega) ?_
    have hi := hi (rs.map enR)
    generalize (rs.eraseIdx k).map enR = R' at *
    generalize rs.map enR = R at *
    rw [hTT, hRR] at hi ⊢
    simp [hi, pop]
  · refine fin tb (rs.take i1 ++ [y] ++ rs.drop i1) tl (ok_ins72 hr oy) (by simp; omega) ?_
    have hi := hi (rs.map enR)
    generalize (rs.take i1 ++ [y] ++ rs.drop i1).map enR = R' at *
    generalize rs.map enR = R at *
    have nz1 : ¬ (rs.length : Int) + 1 = 0 := by omega
    rw [hTT, hRR] at hi ixy ⊢
    have ixy' : ixV [some (.ols TT), some (.own R), some (.int 2), some (.int (k : Nat)), some (.int to), some (.int byte), some (.tup RR)] 1 (.int k) = some (.tup YY) := ixy
    simp [hi, lm, sz, ft1, nz1, ixy', ins1]
  · refine fin tb ((rs.eraseIdx k).take i2 ++ [y] ++ (rs.eraseIdx k).drop i2) tl (ok_ins72 (ok_del72 hr) oy) (by simp; omega) ?_
    have hi := hi (rs.map enR)
    generalize ((rs.eraseIdx k).take i2 ++ [y] ++ (rs.eraseIdx k).drop i2).map enR = R'' at *
    generalize (rs.eraseIdx k).map enR = R' at *
    generalize rs.map enR = R at *
    rw [hTT, hRR] at hi ⊢
    simp [hi, pop, lm, sz, ft2, nz, nz', ins3]
  · refine fin tb (rs.set k (more72 y)) tl (ok_set72 hr (more72_ok oy)) (by simp) ?_
    have h := way4_ok (T := ols72 tb) (row := enR row) (way := 4) (to := to) (byte := byte) hy (by omega)
    rw [← h]
    generalize way4 = M at *
    generalize rs.map enR = R at *
    rw [hTT, hRR]
    simp
    rfl
  · refine fin tb (rs.take i1 ++ [row] ++ rs.drop i1) tl (ok_ins72 hr hrow) (by simp; omega) ?_
    rw [hRR] at ins5
    have hi := hi (rs.map enR)
    generalize (rs.take i1 ++ [row] ++ rs.drop i1).map enR = R' at *
    generalize rs.map enR = R at *
    have nz1 : ¬ (rs.length : Int) + 1 = 0 := by omega
    rw [hTT, hRR] at hi ⊢
    simp [hi, lm, sz, ft1, nz1, ins5]
def DEEDS : MV := .tup [.str "sum", .str "difference", .str "compare"]
def KINDS72 : MV := .tup [.str "packed", .str "spread"]
abbrev g72 (ns : List Int) (T R r5 r6 r7 : Option MV) (d kk spoil way other like lean spot at_ to byte : Nat) (r19 : Option MV) : Env := [some (.scr ns), some DEEDS, some KINDS72, T, R, r5, r6, r7, some (.int d), some (.int kk), some (.int spoil), some (.int way), some (.int other), some (.int like), some (.int lean), some (.int spot), some (.int at_), some (.int to), some (.int byte), r19, none]
theorem deed72 {d : Nat} (h : d < 3) : ∃ s : Str, fIx DEEDS (.int d) = some (.str s) ∧ (s = "sum" ∨ s = "difference" ∨ s = "compare") := by
  rcases (show d = 0 ∨ d = 1 ∨ d = 2 by omega) with rfl | rfl | rfl
  · exact ⟨_, rfl, .inl rfl⟩
  · exact ⟨_, rfl, .inr (.inl rfl)⟩
  · exact ⟨_, rfl, .inr (.inr rfl)⟩
theorem kind72 {d : Nat} (h : d < 2) : ∃ s : Str, fIx KINDS72 (.int d) = some (.str s) ∧ (s = "packed" ∨ s = "spread") := by
  rcases (show d = 0 ∨ d = 1 by omega) with rfl | rfl
  · exact ⟨_, rfl, .inl rfl⟩
  · exact ⟨_, rfl, .inr rfl⟩
theorem byte72 {ns : List Int} {T R : Option MV} {d kk spoil way other like lean spot at_ to byte : Nat} (hb : byte < 256) : ∃ byte' : Nat, byte' < 256 ∧
    mIfS (mTest (mOp fEq (mVar 11) (mC (.int 0)))) (mAsg (mOp fIx (mLst (mCons (mVar 18) (mCons (mOp fMod (mVar 18) (mC (.int 20))) (mCons (mOp fAdd (mC (.int 240)) (mOp fMod (mVar 18) (mC (.int 10)))) (mCons (mOp fMod (mVar 18) (mC (.int 11))) (mNil)))))) (mOp fMod (mVar 16) (mC (.int 4)))) (gSet 18)) (mPass) (g72 ns T R none none none d kk spoil way other like lean spot at_ to byte none) = .ok (.nx, g72 ns T R none none none d kk spoil way other like lean spot at_ to byte' none) := by
  have e0 : ∀ A B C D : MV, fIx (.lst [A, B, C, D]) (.int 0) = some A := fun _ _ _ _ => rfl
  have e1 : ∀ A B C D : MV, fIx (.lst [A, B, C, D]) (.int 1) = some B := fun _ _ _ _ => rfl
  have e2 : ∀ A B C D : MV, fIx (.lst [A, B, C, D]) (.int 2) = some C := fun _ _ _ _ => rfl
  have e3 : ∀ A B C D : MV, fIx (.lst [A, B, C, D]) (.int 3) = some D := fun _ _ _ _ => rfl
  by_cases hw : way = 0
  · subst hw
    have f20 : ((byte : Nat) : Int).fmod 20 = ((byte % 20 : Nat) : Int) := nat_fmod _ 20
    have f10 : ((byte : Nat) : Int).fmod 10 = ((byte % 10 : Nat) : Int) := nat_fmod _ 10
    have f11 : ((byte : Nat) : Int).fmod 11 = ((byte % 11 : Nat) : Int) := nat_fmod _ 11
    have f4 : ((at_ : Nat) : Int).fmod 4 = ((at_ % 4 : Nat) : Int) := nat_fmod _ 4
    have c : (240 : Int) + ((byte % 10 : Nat) : Int) = ((240 + byte % 10 : Nat) : Int) := by omega
    have l1 : byte % 20 < 256 := by omega
    have l2 : 240 + byte % 10 < 256 := by omega
    have l3 : byte % 11 < 256 := by omega
    have h4 : at_ % 4 = 0 ∨ at_ % 4 = 1 ∨ at_ % 4 = 2 ∨ at_ % 4 = 3 := by omega
    generalize 240 + byte % 10 = v2 at *
    generalize byte % 20 = v1 at *
    generalize byte % 10 = v0 at *
    generalize byte % 11 = v3 at *
    generalize DEEDS = DD at *
    generalize KINDS72 = KK at *
    rcases h4 with h | h | h | h
    · rw [h] at f4
      exact ⟨byte, hb, by simp [-fIx_l, e0, f4, f20, f10, f11, c, szOk_small]⟩
    · rw [h] at f4
      exact ⟨v1, l1, by simp [-fIx_l, e1, f4, f20, f10, f11, c, szOk_small]⟩
    · rw [h] at f4
      exact ⟨v2, l2, by simp [-fIx_l, e2, f4, f20, f10, f11, c, szOk_small]⟩
    · rw [h] at f4
      exact ⟨v3, l3, by simp [-fIx_l, e3, f4, f20, f10, f11, c, szOk_small]⟩
  · have hw' : ¬ (way : Int) = 0 := by omega
    generalize DEEDS = DD at *
    generalize KINDS72 = KK at *
    exact ⟨byte, hb, by simp [hw, hw']⟩
theorem spoil72 {ns : List Int} {tb : Nat → Nat → Nat} {rs : List Rw} {d kk spoil way other like lean spot at_ to byte : Nat} (tl : TabLt tb 4) (hr : rs.all (okN 256 4) = true) (hl : rs.length = 7) (hw : way < 6) (hb : byte < 256) (hto : to < 1000) :
    ∃ (tb' : Nat → Nat → Nat) (rs' : List Rw), TabLt tb' 4 ∧ rs'.all (okN 256 4) = true ∧ rs'.length ≤ 8 ∧
    mIfS (mTest (mOp fGt (mVar 10) (mC (.int 0)))) (mDrop (mFz (mCallB f_lspoilt6 (mbB 3 (mbB 4 (mbV (mVar 11) (mbV (mVar 16) (mbV (mVar 17) (mbV (mVar 18) (mbV (mFz (mCall f_lsome_row (mCons (mFz (mCall f_lcell (mCons (mVar 0) (mCons (mC (.int 2)) (mNil))))) (mCons (mC (.int 59)) (mCons (mC (.int 256)) (mCons (mC (.int 4)) (mNil))))))) (mbNil))))))))))) (mPass) (g72 ns (some (ols72 tb)) (some (.own (rs.map enR))) none none none d kk spoil way other like lean spot at_ to byte none) = .ok (.nx, g72 ns (some (ols72 tb')) (some (.own (rs'.map enR))) none none none d kk spoil way other like lean spot at_ to byte none) := by
  by_cases hs : 0 < spoil
  · have hs' : (0 : Int) < spoil := by omega
    obtain ⟨c2, hc2⟩ := lcell_ok ns 2
    have hc2' : f_lcell [.scr ns, .int 2] = .ok (.int c2, []) := hc2
    obtain ⟨row, hrow, er⟩ := lsome_row72 (N := 256) (nt := 4) (by decide) (by decide) c2 59
    have er' : f_lsome_row [.int c2, .int 59, .int 256, .int 4] = .ok (enR row, []) := er
    obtain ⟨tb', rs', t1, t2, t3, e⟩ := lspoilt_ok (at_ := at_) (to := to) (row := row) tl hr (by omega) hrow hw hb hto
    obtain ⟨RR, hRR⟩ : ∃ RR, enR row = .tup RR := by cases row <;> exact ⟨_, rfl⟩
    rw [hRR] at e er'
    refine ⟨tb', rs', t1, t2, by omega, ?_⟩
    obtain ⟨TT, hTT⟩ : ∃ TT, ols72 tb = .ols TT := ⟨_, rfl⟩
    rw [hTT] at e ⊢
    generalize ols72 tb' = T' at *
    generalize rs'.map enR = R' at *
    generalize rs.map enR = R at *
    generalize DEEDS = DD at *
    generalize KINDS72 = KK at *
    simp [hs, hs', hc2', er', e]
  · have hs' : ¬ (0 : Int) < spoil := by omega
    refine ⟨tb, rs, tl, hr, by omega, ?_⟩
    generalize ols72 tb = T at *
    generalize rs.map enR = R at *
    generalize DEEDS = DD at *
    generalize KINDS72 = KK at *
    simp [hs, hs']
theorem lean72 {ns : List Int} {tb : Nat → Nat → Nat} {rs : List Rw} {d kk spoil way other like lean spot at_ to byte : Nat} (hr : rs.all (okN 256 4) = true) (hl : rs.length ≤ 8) (hsp : spot < 254) :
    ∃ (rs' : List Rw), rs'.all (okN 256 4) = true ∧ rs'.length ≤ 9 ∧
    mIfS (mTest (mOp fLt (mVar 14) (mC (.int 2)))) (mDrop (mLm lmInsert 4 (mCons (mC (.int 0)) (mCons (mOp fIx (mTup (mCons (mTup (mCons (mC (.str "addc")) (mCons (mC (.int 0)) (mCons (mOp fAdd (mC (.int 2)) (mVar 15)) (mNil))))) (mCons (mTup (mCons (mC (.str "or")) (mCons (mC (.int 1)) (mCons (mOp fAdd (mC (.int 2)) (mVar 15)) (mNil))))) (mNil)))) (mVar 14)) (mNil))))) (mPass) (g72 ns (some (ols72 tb)) (some (.own (rs.map enR))) none none none d kk spoil way other like lean spot at_ to byte none) = .ok (.nx, g72 ns (some (ols72 tb)) (some (.own (rs'.map enR))) none none none d kk spoil way other like lean spot at_ to byte none) := by
  obtain ⟨TT, hTT⟩ : ∃ TT, ols72 tb = .ols TT := ⟨_, rfl⟩
  rw [hTT]
  have c : (2 : Int) + (spot : Int) = ((2 + spot : Nat) : Int) := by omega
  have e0 : ∀ A B : MV, fIx (.tup [A, B]) (.int 0) = some A := fun _ _ => rfl
  have e1 : ∀ A B : MV, fIx (.tup [A, B]) (.int 1) = some B := fun _ _ => rfl
  have go : ∀ y : Rw, okN 256 4 y = true → (∃ Y, enR y = .tup Y) → mOp fIx (mTup (mCons (mTup (mCons (mC (.str "addc")) (mCons (mC (.int 0)) (mCons (mOp fAdd (mC (.int 2)) (mVar 15)) (mNil))))) (mCons (mTup (mCons (mC (.str "or")) (mCons (mC (.int 1)) (mCons (mOp fAdd (mC (.int 2)) (mVar 15)) (mNil))))) (mNil)))) (mVar 14) (g72 ns (some (.ols TT)) (some (.own (rs.map enR))) none none none d kk spoil way other like lean spot at_ to byte none) = .ok (enR y, g72 ns (some (.ols TT)) (some (.own (rs.map enR))) none none none d kk spoil way other like lean spot at_ to byte none) → lean < 2 →
      ∃ (rs' : List Rw), rs'.all (okN 256 4) = true ∧ rs'.length ≤ 9 ∧
    mIfS (mTest (mOp fLt (mVar 14) (mC (.int 2)))) (mDrop (mLm lmInsert 4 (mCons (mC (.int 0)) (mCons (mOp fIx (mTup (mCons (mTup (mCons (mC (.str "addc")) (mCons (mC (.int 0)) (mCons (mOp fAdd (mC (.int 2)) (mVar 15)) (mNil))))) (mCons (mTup (mCons (mC (.str "or")) (mCons (mC (.int 1)) (mCons (mOp fAdd (mC (.int 2)) (mVar 15)) (mNil))))) (mNil)))) (mVar 14)) (mNil))))) (mPass) (g72 ns (some (.ols TT)) (some (.own (rs.map enR))) none none none d kk spoil way other like lean spot at_ to byte none) = .ok (.nx, g72 ns (some (.ols TT)) (some (.own (rs'.map enR))) none none none d kk spoil way other like lean spot at_ to byte none) := fun y oy hY ev hlt => by
    obtain ⟨Y, hY⟩ := hY
    have ins := insert72 (rs := rs) (i := 0) (y := y) (by omega) (by omega)
    have ins : lmInsert (rs.map enR) [.int 0, enR y] = some ((rs.take 0 ++ [y] ++ rs.drop 0).map enR, .non) := ins
    refine ⟨rs.take 0 ++ [y] ++ rs.drop 0, ok_ins72 hr oy, by simp; omega, ?_⟩
    have hlt' : (lean : Int) < 2 := by omega
    generalize (rs.take 0 ++ [y] ++ rs.drop 0).map enR = R' at *
    generalize rs.map enR = R at *
    generalize (mOp fIx (mTup (mCons (mTup (mCons (mC (.str "addc")) (mCons (mC (.int 0)) (mCons (mOp fAdd (mC (.int 2)) (mVar 15)) (mNil))))) (mCons (mTup (mCons (mC (.str "or")) (mCons (mC (.int 1)) (mCons (mOp fAdd (mC (.int 2)) (mVar 15)) (mNil))))) (mNil)))) (mVar 14)) = M at *
    generalize DEEDS = DD at *
    generalize KINDS72 = KK at *
    rw [hY] at ins ev
    simp [hlt, hlt', ev, ins]
  by_cases hlt : lean < 2
  · rcases (show lean = 0 ∨ lean = 1 by omega) with rfl | rfl
    · refine go (.addc 0 (2 + spot)) (by simp [okN]; omega) ⟨_, rfl⟩ ?_ hlt
      generalize rs.map enR = R at *
      generalize DEEDS = DD at *
      generalize KINDS72 = KK at *
      simp [-fIx_t, e0, enR, szOk_small]
    · refine go (.or_ 1 (2 + spot)) (by simp [okN]; omega) ⟨_, rfl⟩ ?_ hlt
      generalize rs.map enR = R at *
      generalize DEEDS = DD at *
      generalize KINDS72 = KK at *
      simp [-fIx_t, e1, enR, szOk_small]
  · have hlt' : ¬ (lean : Int) < 2 := by omega
    refine ⟨rs, hr, by omega, ?_⟩
    generalize rs.map enR = R at *
    generalize DEEDS = DD at *
    generalize KINDS72 = KK at *
    simp [hlt, hlt']
theorem pad72 {ns : List Int} {tb : Nat → Nat → Nat} {rs : List Rw} {d kk spoil way other like lean spot at_ to byte : Nat} (hr : rs.all (okN 256 4) = true) (hl : rs.length ≤ 9) :
    ∃ (rs' : List Rw), rs'.all (okN 256 4) = true ∧ rs'.length ≤ 60 ∧
    mIfS (mTest (mOp fEq (mVar 13) (mC (.int 5)))) (mSetO 4 (mOpO fAddL (mVar 4) (mOp fMul (mLst (mCons (mTup (mCons (mC (.str "copy")) (mCons (mC (.int 40)) (mCons (mC (.int 41)) (mNil))))) (mNil))) (mOp fSub (mC (.int 60)) (mLenV 4))))) (mPass) (g72 ns (some (ols72 tb)) (some (.own (rs.map enR))) none none none d kk spoil way other like lean spot at_ to byte none) = .ok (.nx, g72 ns (some (ols72 tb)) (some (.own (rs'.map enR))) none none none d kk spoil way other like lean spot at_ to byte none) := by
  obtain ⟨TT, hTT⟩ : ∃ TT, ols72 tb = .ols TT := ⟨_, rfl⟩
  rw [hTT]
  by_cases h5 : like = 5
  · subst h5
    refine ⟨rs ++ List.replicate (60 - rs.length) (.copy 40 41), ?_, by simp; omega, ?_⟩
    · rw [List.all_append, hr, Bool.true_and, List.all_eq_true]
      intro r h
      rw [(List.mem_replicate.mp h).2]
      rfl
    · have lm : (rs.map enR).length = rs.length := List.length_map ..
      have fm : fMul (.lst [.tup [.str "copy", .int 40, .int 41]]) (.int ((60 - rs.length : Nat) : Int)) = some (.lst (List.replicate (60 - rs.length) (.tup [.str "copy", .int 40, .int 41]))) := fMul_1 (by omega)
      have c : (60 : Int) - (rs.length : Int) = ((60 - rs.length : Nat) : Int) := by omega
      have em : (rs ++ List.replicate (60 - rs.length) (Rw.copy 40 41)).map enR = rs.map enR ++ List.replicate (60 - rs.length) (.tup [.str "copy", .int 40, .int 41]) := by rw [List.map_append, List.map_replicate]; rfl
      rw [em]
      have sz : szOk (rs.length + (60 - rs.length)) = true := szOk_small (by omega)
      have sz1 : szOk rs.length = true := szOk_small (by omega)
      have lr : (List.replicate (60 - rs.length) (MV.tup [.str "copy", .int 40, .int 41])).length = 60 - rs.length := List.length_replicate ..
      generalize hX : List.replicate (60 - rs.length) (MV.tup [.str "copy", .int 40, .int 41]) = X at *
      generalize rs.map enR = R at *
      generalize DEEDS = DD at *
      generalize KINDS72 = KK at *
      simp [lm, sz1, c, fm, fAddL, lr, sz, szOk_small]
  · have h5' : ¬ (like : Int) = 5 := by omega
    refine ⟨rs, hr, by omega, ?_⟩
    generalize rs.map enR = R at *
    generalize DEEDS = DD at *
    generalize KINDS72 = KK at *
    simp [h5, h5']
theorem prog72 {ns : List Int} {tb : Nat → Nat → Nat} {rs : List Rw} {d kk spoil way other like lean spot at_ to byte : Nat} :
    mAsg (mTup (mCons (mBlt bTuple (mCons (mFz (mLcO (mItV (mVarL 3)) (.nm 20) (mYes) (mBlt bTuple (mCons (mVar 20) (mNil))) [20])) (mNil))) (mCons (mBlt bTuple (mCons (mVar 4) (mNil))) (mNil)))) (gSet 5) (g72 ns (some (ols72 tb)) (some (.own (rs.map enR))) none none none d kk spoil way other like lean spot at_ to byte none) = .ok (.nx, g72 ns (some (.lst [.lst (col72 (tb 0)), .lst (col72 (tb 1)), .lst (col72 (tb 2)), .lst (col72 (tb 3))])) (some (.lst (rs.map enR))) (some (.tup [.tup (tabsOf tb 4), .tup (rs.map enR)])) none none d kk spoil way other like lean spot at_ to byte none) := by
  have et : tabsOf tb 4 = [.tup (col72 (tb 0)), .tup (col72 (tb 1)), .tup (col72 (tb 2)), .tup (col72 (tb 3))] := rfl
  rw [et]
  unfold ols72
  generalize col72 (tb 0) = C0 at *
  generalize col72 (tb 1) = C1 at *
  generalize col72 (tb 2) = C2 at *
  generalize col72 (tb 3) = C3 at *
  generalize rs.map enR = R at *
  rfl
theorem law_true (ns : List Int) (_ : ns.length ≤ 63) : ∃ bs, f_law148 [.scr ns] = .ok (.bl true, bs) := by
  obtain ⟨c0, hc0⟩ := lcell_ok ns 0
  have hc0' : f_lcell [.scr ns, .int 0] = .ok (.int c0, []) := hc0
  obtain ⟨ds, hd, e0⟩ := ldraws_ok c0 419 [3, 2, 4, 6, 3, 8] (by decide) (by decide)
  simp only [draws_cons, draws_nil] at hd
  obtain ⟨d, _, rfl, b0, kk, _, rfl, b1, spoil, _, rfl, b2, way, _, rfl, b3, other, _, rfl, b4, like, _, rfl, b5, rfl⟩ := hd
  obtain ⟨c3, hc3⟩ := lcell_ok ns 3
  have hc3' : f_lcell [.scr ns, .int 3] = .ok (.int c3, []) := hc3
  obtain ⟨ds, hd, e3⟩ := ldraws_ok c3 420 [8, 254] (by decide) (by decide)
  simp only [draws_cons, draws_nil] at hd
  obtain ⟨lean, _, rfl, b6, spot, _, rfl, b7, rfl⟩ := hd
  obtain ⟨c1, hc1⟩ := lcell_ok ns 1
  have hc1' : f_lcell [.scr ns, .int 1] = .ok (.int c1, []) := hc1
  obtain ⟨ds, hd, e1⟩ := ldraws_ok c1 421 [97, 89, 256] (by decide) (by decide)
  simp only [draws_cons, draws_nil] at hd
  obtain ⟨at_, _, rfl, b8, to, _, rfl, b9, byte, _, rfl, b10, rfl⟩ := hd
  obtain ⟨d, rfl⟩ : ∃ q : Nat, d = q := ⟨d.toNat, by omega⟩
  obtain ⟨kk, rfl⟩ : ∃ q : Nat, kk = q := ⟨kk.toNat, by omega⟩
  obtain ⟨spoil, rfl⟩ : ∃ q : Nat, spoil = q := ⟨spoil.toNat, by omega⟩
  obtain ⟨way, rfl⟩ : ∃ q : Nat, way = q := ⟨way.toNat, by omega⟩
  obtain ⟨other, rfl⟩ : ∃ q : Nat, other = q := ⟨other.toNat, by omega⟩
  obtain ⟨like, rfl⟩ : ∃ q : Nat, like = q := ⟨like.toNat, by omega⟩
  obtain ⟨lean, rfl⟩ : ∃ q : Nat, lean = q := ⟨lean.toNat, by omega⟩
  obtain ⟨spot, rfl⟩ : ∃ q : Nat, spot = q := ⟨spot.toNat, by omega⟩
  obtain ⟨at_, rfl⟩ : ∃ q : Nat, at_ = q := ⟨at_.toNat, by omega⟩
  obtain ⟨to, rfl⟩ : ∃ q : Nat, to = q := ⟨to.toNat, by omega⟩
  obtain ⟨byte, rfl⟩ : ∃ q : Nat, byte = q := ⟨byte.toNat, by omega⟩
  have e0' : f_ldraws [.int c0, .int 419, .lst [.int 3, .int 2, .int 4, .int 6, .int 3, .int 8]] = .ok (.own [.int d, .int kk, .int spoil, .int way, .int other, .int like], []) := e0
  have e3' : f_ldraws [.int c3, .int 420, .lst [.int 8, .int 254]] = .ok (.own [.int lean, .int spot], []) := e3
  have e1' : f_ldraws [.int c1, .int 421, .lst [.int 97, .int 89, .int 256]] = .ok (.own [.int at_, .int to, .int byte], []) := e1
  obtain ⟨deed, hdeed, odeed⟩ := deed72 (d := d) (by omega)
  obtain ⟨kd, hkd, okd⟩ := kind72 (d := kk) (by omega)
  have tE := lown_tables_eq (deed := deed) okd
  have rE := lown_rows_eq deed
  have rO := rows72_ok deed
  have tL := own72_lt deed kd
  generalize own72 deed kd = tb0 at *
  generalize rows72 deed = rs0 at *
  obtain ⟨byte', hb', s8⟩ := byte72 (ns := ns) (T := some (ols72 tb0)) (R := some (.own (rs0.map enR))) (d := d) (kk := kk) (spoil := spoil) (way := way) (other := other) (like := like) (lean := lean) (spot := spot) (at_ := at_) (to := to) (byte := byte) (by omega)
  obtain ⟨tb, rs1, tl, r1, l1, s9⟩ := spoil72 (ns := ns) (d := d) (kk := kk) (spoil := spoil) (way := way) (other := other) (like := like) (lean := lean) (spot := spot) (at_ := at_) (to := to) tL rO.1 rO.2 (by omega) hb' (by omega)
  obtain ⟨rs2, r2, l2, s10⟩ := lean72 (ns := ns) (tb := tb) (d := d) (kk := kk) (spoil := spoil) (way := way) (other := other) (like := like) (lean := lean) (spot := spot) (at_ := at_) (to := to) (byte := byte') r1 l1 (by omega)
  obtain ⟨rs, rO3, l3, s11⟩ := pad72 (ns := ns) (tb := tb) (d := d) (kk := kk) (spoil := spoil) (way := way) (other := other) (like := like) (lean := lean) (spot := spot) (at_ := at_) (to := to) (byte := byte') r2 l2
  have s12 := @prog72 ns tb rs d kk spoil way other like lean spot at_ to byte'
  generalize hd2 : (if like = 7 then other else d) = d2
  generalize hk2 : (if like = 6 then 1 - kk else kk) = kk2
  have hd2' : d2 < 3 := by rw [← hd2]; split <;> omega
  have hk2' : kk2 < 2 := by rw [← hk2]; split <;> omega
  obtain ⟨deed2, hdeed2, odeed2⟩ := deed72 hd2'
  obtain ⟨kd2, hkd2, okd2⟩ := kind72 hk2'
  have du : f_lright8 [.str deed2, .str kd2, .tup [.tup (tabsOf tb 4), .tup (rs.map enR)]] = .ok (.bl (does72 deed2 kd2 tb rs), []) := lright8_eq odeed2 okd2 (tabs_gen tb 4) tl rO3
  have fo := pdoesT odeed2 okd2 tl (by decide) rO3 (by omega)
  generalize does72 deed2 kd2 tb rs = z at *
  generalize [MV.tup (tabsOf tb 4), MV.tup (rs.map enR)] = PL at *
  generalize [MV.lst (col72 (tb 0)), .lst (col72 (tb 1)), .lst (col72 (tb 2)), .lst (col72 (tb 3))] = TL at *
  generalize rs.map enR = RL at *
  have s13 : mIfS (mTest (mOp fEq (mVar 13) (mC (.int 7)))) (mAsg (mVar 12) (gSet 8)) (mPass) (g72 ns (some (.lst TL)) (some (.lst RL)) (some (.tup PL)) none none d kk spoil way other like lean spot at_ to byte' none) = .ok (.nx, g72 ns (some (.lst TL)) (some (.lst RL)) (some (.tup PL)) none none d2 kk spoil way other like lean spot at_ to byte' none) := by
    generalize DEEDS = DD at *
    generalize KINDS72 = KK at *
    rw [← hd2]
    by_cases h : like = 7
    · subst h; simp
    · have h' : ¬ (like : Int) = 7 := by omega
      simp [h, h']
  have s14 : mIfS (mTest (mOp fEq (mVar 13) (mC (.int 6)))) (mAsg (mOp fSub (mC (.int 1)) (mVar 9)) (gSet 9)) (mPass) (g72 ns (some (.lst TL)) (some (.lst RL)) (some (.tup PL)) none none d2 kk spoil way other like lean spot at_ to byte' none) = .ok (.nx, g72 ns (some (.lst TL)) (some (.lst RL)) (some (.tup PL)) none none d2 kk2 spoil way other like lean spot at_ to byte' none) := by
    generalize DEEDS = DD at *
    generalize KINDS72 = KK at *
    rw [← hk2]
    by_cases h : like = 6
    · subst h
      have c : (1 : Int) - (kk : Int) = ((1 - kk : Nat) : Int) := by omega
      generalize hq : 1 - kk = q at *
      simp [c]
    · have h' : ¬ (like : Int) = 6 := by omega
      simp [h, h']
  obtain ⟨DL, hDL⟩ : ∃ DL, DEEDS = .tup DL := ⟨_, rfl⟩
  obtain ⟨KL, hKL⟩ : ∃ KL, KINDS72 = .tup KL := ⟨_, rfl⟩
  have hdeedT : fIx (.tup DL) (.int d) = some (.str deed) := by rw [← hDL]; exact hdeed
  have hkdT : fIx (.tup KL) (.int kk) = some (.str kd) := by rw [← hKL]; exact hkd
  have hdeed2T : fIx (.tup DL) (.int d2) = some (.str deed2) := by rw [← hDL]; exact hdeed2
  have hkd2T : fIx (.tup KL) (.int kk2) = some (.str kd2) := by rw [← hKL]; exact hkd2
  have body : ∀ (i : Int) (r19 : Option MV), b_law148_0 (g72 ns (some (.lst TL)) (some (.lst RL)) (some (.tup PL)) (some (.bl z)) (some (.int i)) d2 kk2 spoil way other like lean spot at_ to byte' r19) = .ok (.nx, g72 ns (some (.lst TL)) (some (.lst RL)) (some (.tup PL)) (some (.bl z)) (some (.int i)) d2 kk2 spoil way other like lean spot at_ to byte' (some (.bl z))) := fun i r19 => by
    have bi : bIsi [.bl z, .raw (.ty "bool")] = some (.bl true) := rfl
    have ne : fNe (.bl z) (.bl z) = some (.bl false) := by cases z <;> rfl
    unfold g72
    rw [hDL, hKL]
    simp [b_law148_0, -fIx_t, hdeed2T, hkd2T, fo, bi, ne]
  have st : ∀ (i : Int) (r7 r19 : Option MV) (xs : List MV), mLoop (gSet 7) b_law148_0 (.int i :: xs) (g72 ns (some (.lst TL)) (some (.lst RL)) (some (.tup PL)) (some (.bl z)) r7 d2 kk2 spoil way other like lean spot at_ to byte' r19) = mLoop (gSet 7) b_law148_0 xs (g72 ns (some (.lst TL)) (some (.lst RL)) (some (.tup PL)) (some (.bl z)) (some (.int i)) d2 kk2 spoil way other like lean spot at_ to byte' (some (.bl z))) := fun i r7 r19 xs => by
    show (b_law148_0 (g72 ns (some (.lst TL)) (some (.lst RL)) (some (.tup PL)) (some (.bl z)) (some (.int i)) d2 kk2 spoil way other like lean spot at_ to byte' r19)).bind _ = _
    rw [body]
    rfl
  refine ⟨_, mFn_ok (v := .bl true) ?_⟩
  show ∃ ρ, m_law148 [some (.scr ns), none, none, none, none, none, none, none, none, none, none, none, none, none, none, none, none, none, none, none, none] = _
  unfold m_law148
  refine seq_nxE (ρ1 := [some (.scr ns), none, none, none, none, none, none, none, some (.int d), some (.int kk), some (.int spoil), some (.int way), some (.int other), some (.int like), none, none, none, none, none, none, none]) (by simp [hc0', e0', szOk_small]) ?_
  refine seq_nxE (ρ1 := [some (.scr ns), none, none, none, none, none, none, none, some (.int d), some (.int kk), some (.int spoil), some (.int way), some (.int other), some (.int like), some (.int lean), some (.int spot), none, none, none, none, none]) (by simp [hc3', e3', szOk_small]) ?_
  refine seq_nxE (ρ1 := [some (.scr ns), none, none, none, none, none, none, none, some (.int d), some (.int kk), some (.int spoil), some (.int way), some (.int other), some (.int like), some (.int lean), some (.int spot), some (.int at_), some (.int to), some (.int byte), none, none]) (by simp [hc1', e1', szOk_small]) ?_
  refine seq_nxE (ρ1 := [some (.scr ns), some DEEDS, none, none, none, none, none, none, some (.int d), some (.int kk), some (.int spoil), some (.int way), some (.int other), some (.int like), some (.int lean), some (.int spot), some (.int at_), some (.int to), some (.int byte), none, none]) rfl ?_
  refine seq_nxE (ρ1 := g72 ns none none none none none d kk spoil way other like lean spot at_ to byte none) rfl ?_
  refine seq_nxE (ρ1 := g72 ns (some (ols72 tb0)) none none none none d kk spoil way other like lean spot at_ to byte none) (by
    unfold g72
    rw [hDL, hKL]
    generalize ols72 tb0 = T0 at *
    simp [-fIx_t, hdeedT, hkdT, tE]) ?_
  refine seq_nxE (ρ1 := g72 ns (some (ols72 tb0)) (some (.own (rs0.map enR))) none none none d kk spoil way other like lean spot at_ to byte none) (by
    unfold g72
    rw [hDL, hKL]
    generalize ols72 tb0 = T0 at *
    generalize rs0.map enR = R0 at *
    simp [-fIx_t, hdeedT, rE]) ?_
  refine seq_nxE s8 (seq_nxE s9 (seq_nxE s10 (seq_nxE s11 (seq_nxE s12 (seq_nxE s13 (seq_nxE s14 ?_))))))
  refine seq_nxE (ρ1 := g72 ns (some (.lst TL)) (some (.lst RL)) (some (.tup PL)) (some (.bl z)) none d2 kk2 spoil way other like lean spot at_ to byte' none) (by
    unfold g72
    rw [hDL, hKL]
    simp [-fIx_t, hdeed2T, hkd2T, du]) ?_
  by_cases h5 : like = 5
  · subst h5
    refine ⟨_, seq_nx (ρ1 := g72 ns (some (.lst TL)) (some (.lst RL)) (some (.tup PL)) (some (.bl z)) (some (.int 0)) d2 kk2 spoil way other 5 lean spot at_ to byte' (some (.bl z))) ?_ rfl⟩
    have it : mR1 (mCons (mOp fSub (mC (.int 2)) (mBlt bInt (mCons (mOp fEq (mVar 13) (mC (.int 5))) (mNil)))) (mNil)) (g72 ns (some (.lst TL)) (some (.lst RL)) (some (.tup PL)) (some (.bl z)) none d2 kk2 spoil way other 5 lean spot at_ to byte' none) = .ok ([.int 0], g72 ns (some (.lst TL)) (some (.lst RL)) (some (.tup PL)) (some (.bl z)) none d2 kk2 spoil way other 5 lean spot at_ to byte' none) := rfl
    rw [mFor_ap, it, bind_ok, st]
    rfl
  · refine ⟨_, seq_nx (ρ1 := g72 ns (some (.lst TL)) (some (.lst RL)) (some (.tup PL)) (some (.bl z)) (some (.int 1)) d2 kk2 spoil way other like lean spot at_ to byte' (some (.bl z))) ?_ rfl⟩
    have it : mR1 (mCons (mOp fSub (mC (.int 2)) (mBlt bInt (mCons (mOp fEq (mVar 13) (mC (.int 5))) (mNil)))) (mNil)) (g72 ns (some (.lst TL)) (some (.lst RL)) (some (.tup PL)) (some (.bl z)) none d2 kk2 spoil way other like lean spot at_ to byte' none) = .ok ([.int 0, .int 1], g72 ns (some (.lst TL)) (some (.lst RL)) (some (.tup PL)) (some (.bl z)) none d2 kk2 spoil way other like lean spot at_ to byte' none) := by
      have h5' : ¬ (like : Int) = 5 := by omega
      have ir : inR 2 = true := inR_of (by decide) (by decide)
      have rg : rngM 0 1 2 = [.int 0, .int 1] := rfl
      generalize DEEDS = DD at *
      generalize KINDS72 = KK at *
      simp [h5, h5', ir, rg]
    rw [mFor_ap, it, bind_ok, st, st]
    rfl
def top (i : Nat) : Stmt := PySem.Challenge.pw_tensloft_k72_programs_looked_at.main.body.getD i (.Pass ⟨0, 0, 0, 0⟩)
abbrev s_ini_NoDeed : Stmt := inCls (top 6) 0
theorem sc_ini_NoDeed : FnScope ["self", "deed"] ["self", "deed"] (defScope s_ini_NoDeed) := ⟨rfl, rfl, rfl, by decide +kernel, rfl, by decide +kernel, by decide +kernel⟩
theorem ini_NoDeed {P : Program} {w : World} {K : PySem.W.Frag} {mg : Str → Option Value} {base : Heap} {a : Addr} {fd : FuncData} (F : Fun K "__init__" "NoDeed.__init__" s_ini_NoDeed a fd) (B : Bas K mg "LoftError") : FnOk P w K mg base (L2N.CX P w) 2 a fd ["self", "deed"] (spI1 K "deed") :=
  init1 F sc_ini_NoDeed B rfl (fun _ _ => rfl) (by decide +kernel) (by decide +kernel) (fun _ => ⟨_, rfl⟩) (by decide) (by decide) (by decide)
abbrev s_ini_NoFit : Stmt := inCls (top 3) 0
theorem sc_ini_NoFit : FnScope ["self", "number"] ["self", "number"] (defScope s_ini_NoFit) := ⟨rfl, rfl, rfl, by decide +kernel, rfl, by decide +kernel, by decide +kernel⟩
theorem ini_NoFit {P : Program} {w : World} {K : PySem.W.Frag} {mg : Str → Option Value} {base : Heap} {a : Addr} {fd : FuncData} (F : Fun K "__init__" "NoFit.__init__" s_ini_NoFit a fd) (B : Bas K mg "LoftError") : FnOk P w K mg base (L2N.CX P w) 2 a fd ["self", "number"] (spI1 K "number") :=
  init1 F sc_ini_NoFit B rfl (fun _ _ => rfl) (by decide +kernel) (by decide +kernel) (fun _ => ⟨_, rfl⟩) (by decide) (by decide) (by decide)
abbrev s_ini_NoRow : Stmt := inCls (top 5) 0
theorem sc_ini_NoRow : FnScope ["self", "at"] ["self", "at"] (defScope s_ini_NoRow) := ⟨rfl, rfl, rfl, by decide +kernel, rfl, by decide +kernel, by decide +kernel⟩
theorem ini_NoRow {P : Program} {w : World} {K : PySem.W.Frag} {mg : Str → Option Value} {base : Heap} {a : Addr} {fd : FuncData} (F : Fun K "__init__" "NoRow.__init__" s_ini_NoRow a fd) (B : Bas K mg "LoftError") : FnOk P w K mg base (L2N.CX P w) 2 a fd ["self", "at"] (spI1 K "at") :=
  init1 F sc_ini_NoRow B rfl (fun _ _ => rfl) (by decide +kernel) (by decide +kernel) (fun _ => ⟨_, rfl⟩) (by decide) (by decide) (by decide)
abbrev s_ini_NoShape : Stmt := inCls (top 2) 0
theorem sc_ini_NoShape : FnScope ["self", "part"] ["self", "part"] (defScope s_ini_NoShape) := ⟨rfl, rfl, rfl, by decide +kernel, rfl, by decide +kernel, by decide +kernel⟩
theorem ini_NoShape {P : Program} {w : World} {K : PySem.W.Frag} {mg : Str → Option Value} {base : Heap} {a : Addr} {fd : FuncData} (F : Fun K "__init__" "NoShape.__init__" s_ini_NoShape a fd) (B : Bas K mg "LoftError") : FnOk P w K mg base (L2N.CX P w) 2 a fd ["self", "part"] (spI1 K "part") :=
  init1 F sc_ini_NoShape B rfl (fun _ _ => rfl) (by decide +kernel) (by decide +kernel) (fun _ => ⟨_, rfl⟩) (by decide) (by decide) (by decide)
abbrev s_ini_NoTable : Stmt := inCls (top 4) 0
theorem sc_ini_NoTable : FnScope ["self", "at"] ["self", "at"] (defScope s_ini_NoTable) := ⟨rfl, rfl, rfl, by decide +kernel, rfl, by decide +kernel, by decide +kernel⟩
theorem ini_NoTable {P : Program} {w : World} {K : PySem.W.Frag} {mg : Str → Option Value} {base : Heap} {a : Addr} {fd : FuncData} (F : Fun K "__init__" "NoTable.__init__" s_ini_NoTable a fd) (B : Bas K mg "LoftError") : FnOk P w K mg base (L2N.CX P w) 2 a fd ["self", "at"] (spI1 K "at") :=
  init1 F sc_ini_NoTable B rfl (fun _ _ => rfl) (by decide +kernel) (by decide +kernel) (fun _ => ⟨_, rfl⟩) (by decide) (by decide) (by decide)
section
variable {P : Program} {w : World} {K : PySem.W.Frag} {mg : Str → Option Value} {base : Heap} {f : Addr} {fd : FuncData}
abbrev s_lmixed : Stmt := top 47
abbrev N_lmixed : List Str := ["_law_cell_here", "_law_k", "_law_salt", "_law_primes", "_law_one", "_law_two"]
theorem sc_lmixed : FnScope N_lmixed ["_law_cell_here", "_law_k", "_law_salt"] (defScope s_lmixed) := ⟨rfl, rfl, rfl, by decide +kernel, rfl, by decide +kernel, by decide +kernel⟩
theorem v_lmixed_0 : LV s_lmixed "_law_cell_here" := by decide +kernel
theorem v_lmixed_1 : LV s_lmixed "_law_k" := by decide +kernel
theorem v_lmixed_2 : LV s_lmixed "_law_salt" := by decide +kernel
theorem v_lmixed_3 : LV s_lmixed "_law_primes" := by decide +kernel
theorem v_lmixed_4 : LV s_lmixed "_law_one" := by decide +kernel
theorem v_lmixed_5 : LV s_lmixed "_law_two" := by decide +kernel
theorem ok_lmixed (F : Fun K "_law_mixed" "_law_mixed" s_lmixed f fd) (B : Bn mg)     :
    FnOk P w K mg base (L2N.CX P w) 2 f fd ["_law_cell_here", "_law_k", "_law_salt"] (spF K mg 3 [] f_lmixed) := by
  refine fn_ok F sc_lmixed (by decide) (by decide) fun cdv A outer s H E hr => ?_
  have nd := sc_lmixed.nd
  have tk : TkO (cxO P w K mg base N_lmixed "_law_mixed" s_lmixed f cdv A outer s H E) E := L2N.takes_of rfl rfl rfl rfl
  have pn : PnO P w (cxO P w K mg base N_lmixed "_law_mixed" s_lmixed f cdv A outer s H E) := passes_of rfl
  unfold m_lmixed
  exact mss_cons (ms_set (i := 3) nd rfl (.inl v_lmixed_3) (me_lst (ma_cons (me_int) (ma_cons (me_int) (ma_cons (me_int) (ma_cons (me_int) (ma_cons (me_int) (ma_cons (me_int) (ma_cons (me_int) (ma_cons (me_int) (ma_nil))))))))))) (mss_cons (ms_set (i := 4) nd rfl (.inl v_lmixed_4) (me_mod (me_add (me_add (me_add (me_var (i := 0) rfl (.inl v_lmixed_0)) (me_mul (me_int) (me_var (i := 2) rfl (.inl v_lmixed_2)))) (me_mul (me_int) (me_var (i := 1) rfl (.inl v_lmixed_1)))) (me_int)) (me_int))) (mss_cons (ms_set (i := 4) nd rfl (.inl v_lmixed_4) (me_mod (me_pow (me_var (i := 4) rfl (.inl v_lmixed_4)) (me_int)) (me_ix (me_var (i := 3) rfl (.inl v_lmixed_3)) (me_mod (me_var (i := 1) rfl (.inl v_lmixed_1)) (me_int))))) (mss_cons (ms_set (i := 5) nd rfl (.inl v_lmixed_5) (me_mod (me_add (me_add (me_var (i := 4) rfl (.inl v_lmixed_4)) (me_mul (me_int) (me_var (i := 2) rfl (.inl v_lmixed_2)))) (me_var (i := 1) rfl (.inl v_lmixed_1))) (me_int))) (mss_one (ms_ret (me_add (me_mul (me_mod (me_pow (me_var (i := 5) rfl (.inl v_lmixed_5)) (me_int)) (me_int)) (me_int)) (me_var (i := 4) rfl (.inl v_lmixed_4))))))))

abbrev s_ldraws : Stmt := top 48
abbrev N_ldraws : List Str := ["_law_cell_here", "_law_salt", "_law_widths", "_law_found", "_law_left", "_law_k"]
theorem sc_ldraws : FnScope N_ldraws ["_law_cell_here", "_law_salt", "_law_widths"] (defScope s_ldraws) := ⟨rfl, rfl, rfl, by decide +kernel, rfl, by decide +kernel, by decide +kernel⟩
theorem v_ldraws_0 : LV s_ldraws "_law_cell_here" := by decide +kernel
theorem v_ldraws_1 : LV s_ldraws "_law_salt" := by decide +kernel
theorem v_ldraws_2 : LV s_ldraws "_law_widths" := by decide +kernel
theorem v_ldraws_3 : LV s_ldraws "_law_found" := by decide +kernel
theorem v_ldraws_4 : LV s_ldraws "_law_left" := by decide +kernel
theorem v_ldraws_5 : LV s_ldraws "_law_k" := by decide +kernel
theorem g_ldraws_abs : GV "_law_draws" s_ldraws "abs" := fun _ _ _ => rfl
theorem g_ldraws_len : GV "_law_draws" s_ldraws "len" := fun _ _ _ => rfl
theorem g_ldraws_range : GV "_law_draws" s_ldraws "range" := fun _ _ _ => rfl
theorem g_ldraws_law_mixed : GV "_law_draws" s_ldraws "_law_mixed" := fun _ _ _ => rfl
theorem ok_ldraws (F : Fun K "_law_draws" "_law_draws" s_ldraws f fd) (B : Bn mg) (h_lmixed : Fd P w K mg base "_law_mixed" 2 ["_law_cell_here", "_law_k", "_law_salt"] [] f_lmixed)    :
    FnOk P w K mg base (L2N.CX P w) 4 f fd ["_law_cell_here", "_law_salt", "_law_widths"] (spF K mg 3 [] f_ldraws) := by
  refine fn_ok F sc_ldraws (by decide) (by decide) fun cdv A outer s H E hr => ?_
  have nd := sc_ldraws.nd
  have tk : TkO (cxO P w K mg base N_ldraws "_law_draws" s_ldraws f cdv A outer s H E) E := L2N.takes_of rfl rfl rfl rfl
  have pn : PnO P w (cxO P w K mg base N_ldraws "_law_draws" s_ldraws f cdv A outer s H E) := passes_of rfl
  unfold m_ldraws
  exact mss_cons (ms_setO (i := 3) nd rfl (.inl v_ldraws_3) (mo_lst (ma_nil))) (mss_cons (ms_set (i := 4) nd rfl (.inl v_ldraws_4) (me_int)) (mss_cons (ms_if (mt_cmp op_ge os_ge (mb_abs B.abs (ma_cons (me_var (i := 0) rfl (.inl v_ldraws_0)) (ma_nil)) (hg := (g_ldraws_abs _ _ _))) (me_pow (me_int) (me_int)) (nomark _)) (mss_one (ms_set (i := 4) nd rfl (.inl v_ldraws_4) (mb_abs B.abs (ma_cons (me_var (i := 0) rfl (.inl v_ldraws_0)) (ma_nil)) (hg := (g_ldraws_abs _ _ _))))) (mss_nil)) (mss_cons (ms_for pn rfl (mi_r1 B.range (ma_cons (mb_len B.len (ma_cons (me_var (i := 2) rfl (.inl v_ldraws_2)) (ma_nil)) (hg := (g_ldraws_len _ _ _))) (ma_nil)) (hg := (g_ldraws_range _ _ _))) (mg_name (i := 5) nd rfl (.inl v_ldraws_5)) (mss_one (ms_if (mt_cmp op_gt os_gt (me_var (i := 4) rfl (.inl v_ldraws_4)) (me_int) (nomark _)) (mss_cons (ms_expr (me_lm1 ls_append PySem.F.slot_list_append PySem.F.type_list_append mt_append (i := 3) rfl (.inl v_ldraws_3) (ma_cons (me_mod (me_var (i := 4) rfl (.inl v_ldraws_4)) (me_ix (me_var (i := 2) rfl (.inl v_ldraws_2)) (me_var (i := 5) rfl (.inl v_ldraws_5)))) (ma_nil)))) (mss_one (ms_set (i := 4) nd rfl (.inl v_ldraws_4) (me_div (me_var (i := 4) rfl (.inl v_ldraws_4)) (me_ix (me_var (i := 2) rfl (.inl v_ldraws_2)) (me_var (i := 5) rfl (.inl v_ldraws_5))))))) (mss_one (ms_expr (me_lm1 ls_append PySem.F.slot_list_append PySem.F.type_list_append mt_append (i := 3) rfl (.inl v_ldraws_3) (ma_cons (me_mod (me_fz (mf_call h_lmixed hr (by decide) tk (ma_cons (me_var (i := 0) rfl (.inl v_ldraws_0)) (ma_cons (me_var (i := 5) rfl (.inl v_ldraws_5)) (ma_cons (me_var (i := 1) rfl (.inl v_ldraws_1)) (ma_nil)))) (lng_cons (lng_cons (lng_cons lng_nil))) (hg := (g_ldraws_law_mixed _ _ _)))) (me_ix (me_var (i := 2) rfl (.inl v_ldraws_2)) (me_var (i := 5) rfl (.inl v_ldraws_5)))) (ma_nil)))))))) (mss_one (ms_retO (mo_var (i := 3) rfl (.inl v_ldraws_3)))))))

abbrev s_lown_tables2 : Stmt := top 51
abbrev N_lown_tables2 : List Str := ["_law_deed", "_law_kind", "_law_zone", "_law_low", "_law_more", "_law_answers", "_law_marks", "_law_byte"]
theorem sc_lown_tables2 : FnScope N_lown_tables2 ["_law_deed", "_law_kind"] (defScope s_lown_tables2) := ⟨rfl, rfl, rfl, by decide +kernel, rfl, by decide +kernel, by decide +kernel⟩
theorem v_lown_tables2_0 : LV s_lown_tables2 "_law_deed" := by decide +kernel
theorem v_lown_tables2_1 : LV s_lown_tables2 "_law_kind" := by decide +kernel
theorem v_lown_tables2_2 : (defScope s_lown_tables2).names.lookup ("_law_zone" : Str) = some NameKind.cell := by decide +kernel
theorem v_lown_tables2_3 : LV s_lown_tables2 "_law_low" := by decide +kernel
theorem v_lown_tables2_4 : LV s_lown_tables2 "_law_more" := by decide +kernel
theorem v_lown_tables2_5 : LV s_lown_tables2 "_law_answers" := by decide +kernel
theorem v_lown_tables2_6 : LV s_lown_tables2 "_law_marks" := by decide +kernel
theorem g_lown_tables2_int : GV "_law_own_tables" s_lown_tables2 "int" := fun _ _ _ => rfl
theorem g_lown_tables2_range : GV "_law_own_tables" s_lown_tables2 "range" := fun _ _ _ => rfl
theorem g_lown_tables2_list : GV "_law_own_tables" s_lown_tables2 "list" := fun _ _ _ => rfl
theorem ok_lown_tables2 (F : Fun K "_law_own_tables" "_law_own_tables" s_lown_tables2 f fd) (B : Bn mg)     :
    FnOk P w K mg base (L2N.CX P w) 2 f fd ["_law_deed", "_law_kind"] (spF K mg 2 [] f_lown_tables2) := by
  refine fn_ok F sc_lown_tables2 (by decide) (by decide) fun cdv A outer s H E hr => ?_
  have nd := sc_lown_tables2.nd
  have tk : TkO (cxO P w K mg base N_lown_tables2 "_law_own_tables" s_lown_tables2 f cdv A outer s H E) E := L2N.takes_of rfl rfl rfl rfl
  have pn : PnO P w (cxO P w K mg base N_lown_tables2 "_law_own_tables" s_lown_tables2 f cdv A outer s H E) := passes_of rfl
  unfold m_lown_tables2
  exact mss_cons (ms_set (i := 2) nd rfl (.inr v_lown_tables2_2) (me_mul (me_int) (mb_int B.int (ma_cons (me_cmp (op_eqM hr.units) os_eq (me_var (i := 1) rfl (.inl v_lown_tables2_1)) (me_str) (nomark _)) (ma_nil)) (hg := (g_lown_tables2_int _ _ _))))) (mss_cons (ms_setLc (own := [("_law_byte", 7)]) (g := .nm 7) (i := 3) rfl nd rfl v_lown_tables2_3 (sw_true rfl v_lown_tables2_3 rfl (by decide +kernel)) (mi_r1 B.range (ma_cons (me_int) (ma_nil)) (hg := (g_lown_tables2_range _ _ _))) (blkOk_at (N' := ["_law_deed", "_law_kind", "_law_zone", "_law_low", "_law_more", "_law_answers", "_law_marks", "_law_byte"]) (sc' := defScope s_lown_tables2) rfl rfl (by decide +kernel)) (fun _ _ _ _ _ => pg_name (i := 7) nd rfl (Or.inl rfl)) (fun _ _ _ _ _ => mts_nil) (fun _ _ _ _ _ => me_mod (me_var (i := 7) rfl (.inl rfl)) (me_int)) (hbs := hbs_of rfl)) (mss_cons (ms_setO (i := 4) nd rfl (.inl v_lown_tables2_4) (mo_cpV (i := 3) rfl (.inl v_lown_tables2_3) B.list (hg := (g_lown_tables2_list _ _ _)))) (mss_cons (ms_setLc (own := [("_law_byte", 7)]) (g := .nm 7) (i := 5) rfl nd rfl v_lown_tables2_5 (sw_true rfl v_lown_tables2_5 rfl (by decide +kernel)) (mi_r1 B.range (ma_cons (me_int) (ma_nil)) (hg := (g_lown_tables2_range _ _ _))) (blkOk_at (N' := ["_law_deed", "_law_kind", "_law_zone", "_law_low", "_law_more", "_law_answers", "_law_marks", "_law_byte"]) (sc' := defScope s_lown_tables2) rfl rfl (by decide +kernel)) (fun _ _ _ _ _ => pg_name (i := 7) nd rfl (Or.inl rfl)) (fun _ _ _ _ _ => mts_nil) (fun _ _ _ _ _ => me_add (me_var (i := 2) rfl (by first | exact .inr (.inr rfl) | exact .inl rfl | exact .inr (.inl rfl))) (me_mod (me_var (i := 7) rfl (.inl rfl)) (me_int))) (hbs := hbs_of rfl)) (mss_cons (ms_setLc (own := [("_law_byte", 7)]) (g := .nm 7) (i := 6) rfl nd rfl v_lown_tables2_6 (sw_true rfl v_lown_tables2_6 rfl (by decide +kernel)) (mi_r1 B.range (ma_cons (me_int) (ma_nil)) (hg := (g_lown_tables2_range _ _ _))) (blkOk_at (N' := ["_law_deed", "_law_kind", "_law_zone", "_law_low", "_law_more", "_law_answers", "_law_marks", "_law_byte"]) (sc' := defScope s_lown_tables2) rfl rfl (by decide +kernel)) (fun _ _ _ _ _ => pg_name (i := 7) nd rfl (Or.inl rfl)) (fun _ _ _ _ _ => mts_nil) (fun _ _ _ _ _ => me_mul (me_int) (mb_int B.int (ma_cons (me_cmp op_gt os_gt (me_var (i := 7) rfl (.inl rfl)) (me_int) (nomark _)) (ma_nil)) (hg := rfl))) (hbs := hbs_of rfl)) (mss_cons (ms_if (mt_cmp (op_neM hr.units) os_ne (me_var (i := 0) rfl (.inl v_lown_tables2_0)) (me_str) (nomark _)) (mss_cons (ms_setLc (own := [("_law_byte", 7)]) (g := .nm 7) (i := 4) rfl nd rfl v_lown_tables2_4 (sw_true rfl v_lown_tables2_4 rfl (by decide +kernel)) (mi_r1 B.range (ma_cons (me_int) (ma_nil)) (hg := (g_lown_tables2_range _ _ _))) (blkOk_at (N' := ["_law_deed", "_law_kind", "_law_zone", "_law_low", "_law_more", "_law_answers", "_law_marks", "_law_byte"]) (sc' := defScope s_lown_tables2) rfl rfl (by decide +kernel)) (fun _ _ _ _ _ => pg_name (i := 7) nd rfl (Or.inl rfl)) (fun _ _ _ _ _ => mts_nil) (fun _ _ _ _ _ => mb_max rfl B.max (ma_cons (me_int) (ma_cons (me_sub (me_int) (me_mod (me_var (i := 7) rfl (.inl rfl)) (me_int))) (ma_nil))) (hg := rfl)) (hbs := hbs_of rfl)) (mss_one (ms_setLc (own := [("_law_byte", 7)]) (g := .nm 7) (i := 6) rfl nd rfl v_lown_tables2_6 (sw_true rfl v_lown_tables2_6 rfl (by decide +kernel)) (mi_r1 B.range (ma_cons (me_int) (ma_nil)) (hg := (g_lown_tables2_range _ _ _))) (blkOk_at (N' := ["_law_deed", "_law_kind", "_law_zone", "_law_low", "_law_more", "_law_answers", "_law_marks", "_law_byte"]) (sc' := defScope s_lown_tables2) rfl rfl (by decide +kernel)) (fun _ _ _ _ _ => pg_name (i := 7) nd rfl (Or.inl rfl)) (fun _ _ _ _ _ => mts_nil) (fun _ _ _ _ _ => me_mul (me_int) (mb_int B.int (ma_cons (me_cmp op_lt os_lt (me_var (i := 7) rfl (.inl rfl)) (me_int) (nomark _)) (ma_nil)) (hg := rfl))) (hbs := hbs_of rfl)))) (mss_nil)) (mss_cons (ms_if (mt_cmp (op_eqM hr.units) os_eq (me_var (i := 0) rfl (.inl v_lown_tables2_0)) (me_str) (nomark _)) (mss_one (ms_setLc (own := [("_law_byte", 7)]) (g := .nm 7) (i := 5) rfl nd rfl v_lown_tables2_5 (sw_true rfl v_lown_tables2_5 rfl (by decide +kernel)) (mi_r1 B.range (ma_cons (me_int) (ma_nil)) (hg := (g_lown_tables2_range _ _ _))) (blkOk_at (N' := ["_law_deed", "_law_kind", "_law_zone", "_law_low", "_law_more", "_law_answers", "_law_marks", "_law_byte"]) (sc' := defScope s_lown_tables2) rfl rfl (by decide +kernel)) (fun _ _ _ _ _ => pg_name (i := 7) nd rfl (Or.inl rfl)) (fun _ _ _ _ _ => mts_nil) (fun _ _ _ _ _ => me_add (mb_int B.int (ma_cons (me_cmp op_gt os_gt (me_var (i := 7) rfl (.inl rfl)) (me_int) (nomark _)) (ma_nil)) (hg := rfl)) (mb_int B.int (ma_cons (me_cmp op_gt os_gt (me_var (i := 7) rfl (.inl rfl)) (me_int) (nomark _)) (ma_nil)) (hg := rfl))) (hbs := hbs_of rfl))) (mss_nil)) (mss_one (ms_retO (mo_old4 (i1 := 3) (i2 := 4) (i3 := 5) (i4 := 6) rfl (.inl v_lown_tables2_3) rfl (.inl v_lown_tables2_4) rfl (.inl v_lown_tables2_5) rfl (.inl v_lown_tables2_6))))))))))

abbrev s_lown_rows2 : Stmt := top 52
abbrev N_lown_rows2 : List Str := ["_law_deed", "_law_rows"]
theorem sc_lown_rows2 : FnScope N_lown_rows2 ["_law_deed"] (defScope s_lown_rows2) := ⟨rfl, rfl, rfl, by decide +kernel, rfl, by decide +kernel, by decide +kernel⟩
theorem v_lown_rows2_0 : LV s_lown_rows2 "_law_deed" := by decide +kernel
theorem v_lown_rows2_1 : LV s_lown_rows2 "_law_rows" := by decide +kernel
theorem ok_lown_rows2 (F : Fun K "_law_own_rows" "_law_own_rows" s_lown_rows2 f fd) (B : Bn mg)     :
    FnOk P w K mg base (L2N.CX P w) 2 f fd ["_law_deed"] (spF K mg 1 [] f_lown_rows2) := by
  refine fn_ok F sc_lown_rows2 (by decide) (by decide) fun cdv A outer s H E hr => ?_
  have nd := sc_lown_rows2.nd
  have tk : TkO (cxO P w K mg base N_lown_rows2 "_law_own_rows" s_lown_rows2 f cdv A outer s H E) E := L2N.takes_of rfl rfl rfl rfl
  have pn : PnO P w (cxO P w K mg base N_lown_rows2 "_law_own_rows" s_lown_rows2 f cdv A outer s H E) := passes_of rfl
  unfold m_lown_rows2
  exact mss_cons (ms_set (i := 1) nd rfl (.inl v_lown_rows2_1) (me_lst (ma_cons (me_tup (ma_cons (me_str) (ma_cons (me_int) (ma_cons (me_int) (ma_nil))))) (ma_cons (me_tup (ma_cons (me_str) (ma_cons (me_int) (ma_cons (me_int) (ma_nil))))) (ma_cons (me_tup (ma_cons (me_str) (ma_cons (me_int) (ma_cons (me_int) (ma_nil))))) (ma_cons (me_tup (ma_cons (me_str) (ma_cons (me_int) (ma_cons (me_int) (ma_nil))))) (ma_cons (me_tup (ma_cons (me_str) (ma_cons (me_int) (ma_cons (me_int) (ma_nil))))) (ma_cons (me_tup (ma_cons (me_str) (ma_cons (me_int) (ma_cons (me_int) (ma_nil))))) (ma_nil))))))))) (mss_cons (ms_if (mt_cmp (op_eqM hr.units) os_eq (me_var (i := 0) rfl (.inl v_lown_rows2_0)) (me_str) (nomark _)) (mss_one (ms_retO (mo_add (me_var (i := 1) rfl (.inl v_lown_rows2_1)) (me_lst (ma_cons (me_tup (ma_cons (me_str) (ma_cons (me_int) (ma_nil)))) (ma_nil)))))) (mss_nil)) (mss_one (ms_retO (mo_add (me_var (i := 1) rfl (.inl v_lown_rows2_1)) (me_lst (ma_cons (me_tup (ma_cons (me_str) (ma_cons (me_int) (ma_nil)))) (ma_nil)))))))

abbrev s_lrun : Stmt := top 49
abbrev N_lrun : List Str := ["_law_program", "_law_cells", "_law_mark", "_law_row", "_law_tables", "_law_rows", "_law_word", "_law_a", "_law_total"]
theorem sc_lrun : FnScope N_lrun ["_law_program", "_law_cells", "_law_mark"] (defScope s_lrun) := ⟨rfl, rfl, rfl, by decide +kernel, rfl, by decide +kernel, by decide +kernel⟩
theorem v_lrun_0 : LV s_lrun "_law_program" := by decide +kernel
theorem v_lrun_1 : LV s_lrun "_law_cells" := by decide +kernel
theorem v_lrun_2 : LV s_lrun "_law_mark" := by decide +kernel
theorem v_lrun_3 : LV s_lrun "_law_row" := by decide +kernel
theorem v_lrun_4 : LV s_lrun "_law_tables" := by decide +kernel
theorem v_lrun_5 : LV s_lrun "_law_rows" := by decide +kernel
theorem v_lrun_6 : LV s_lrun "_law_word" := by decide +kernel
theorem v_lrun_7 : LV s_lrun "_law_a" := by decide +kernel
theorem v_lrun_8 : LV s_lrun "_law_total" := by decide +kernel
theorem g_lrun_list : GV "_law_run" s_lrun "list" := fun _ _ _ => rfl
theorem g_lrun_int : GV "_law_run" s_lrun "int" := fun _ _ _ => rfl
theorem ok_lrun (F : Fun K "_law_run" "_law_run" s_lrun f fd) (B : Bn mg)     :
    FnOk P w K mg base (L2N.CX P w) 2 f fd ["_law_program", "_law_cells", "_law_mark"] (spF K mg 3 [] f_lrun) := by
  refine fn_ok F sc_lrun (by decide) (by decide) fun cdv A outer s H E hr => ?_
  have nd := sc_lrun.nd
  have tk : TkO (cxO P w K mg base N_lrun "_law_run" s_lrun f cdv A outer s H E) E := L2N.takes_of rfl rfl rfl rfl
  have pn : PnO P w (cxO P w K mg base N_lrun "_law_run" s_lrun f cdv A outer s H E) := passes_of rfl
  unfold m_lrun
  exact mss_cons (ms_asg (me_var (i := 0) rfl (.inl v_lrun_0)) (mg_tup rfl (mgs_cons (mg_name (i := 4) nd rfl (.inl v_lrun_4)) (mgs_cons (mg_name (i := 5) nd rfl (.inl v_lrun_5)) (mgs_nil))))) (mss_cons (ms_setO (i := 1) nd rfl (.inl v_lrun_1) (mbo_list B.list (ma_cons (me_var (i := 1) rfl (.inl v_lrun_1)) (ma_nil)) (hg := (g_lrun_list _ _ _)))) (mss_cons (ms_for pn rfl (mi_val (me_var (i := 5) rfl (.inl v_lrun_5))) (mg_name (i := 3) nd rfl (.inl v_lrun_3)) (mss_cons (ms_set (i := 6) nd rfl (.inl v_lrun_6) (me_ix (me_var (i := 3) rfl (.inl v_lrun_3)) (me_int))) (mss_cons (ms_set (i := 7) nd rfl (.inl v_lrun_7) (me_ix (me_var (i := 3) rfl (.inl v_lrun_3)) (me_int))) (mss_one (ms_if (mt_cmp (op_eqM hr.units) os_eq (me_var (i := 6) rfl (.inl v_lrun_6)) (me_str) (nomark _)) (mss_one (ms_setIx (i := 1) rfl (.inl v_lrun_1) (me_ixV (i := 1) rfl (.inl v_lrun_1) (me_ix (me_var (i := 3) rfl (.inl v_lrun_3)) (me_int))) (me_var (i := 7) rfl (.inl v_lrun_7)))) (mss_one (ms_if (mt_cmp (op_eqM hr.units) os_eq (me_var (i := 6) rfl (.inl v_lrun_6)) (me_str) (nomark _)) (mss_one (ms_setIx (i := 1) rfl (.inl v_lrun_1) (me_ix (me_ix (me_var (i := 4) rfl (.inl v_lrun_4)) (me_ix (me_var (i := 3) rfl (.inl v_lrun_3)) (me_int))) (me_ixV (i := 1) rfl (.inl v_lrun_1) (me_var (i := 7) rfl (.inl v_lrun_7)))) (me_var (i := 7) rfl (.inl v_lrun_7)))) (mss_one (ms_if (PW.pt (mw_or (mt_cmp (op_eqM hr.units) os_eq (me_var (i := 6) rfl (.inl v_lrun_6)) (me_str) (nomark _)) (mw_one_or (mt_cmp (op_eqM hr.units) os_eq (me_var (i := 6) rfl (.inl v_lrun_6)) (me_str) (nomark _))))) (mss_cons (ms_set (i := 8) nd rfl (.inl v_lrun_8) (me_add (me_add (me_ixV (i := 1) rfl (.inl v_lrun_1) (me_var (i := 7) rfl (.inl v_lrun_7))) (me_ixV (i := 1) rfl (.inl v_lrun_1) (me_ix (me_var (i := 3) rfl (.inl v_lrun_3)) (me_int)))) (me_mul (me_var (i := 2) rfl (.inl v_lrun_2)) (mb_int B.int (ma_cons (me_cmp (op_eqM hr.units) os_eq (me_var (i := 6) rfl (.inl v_lrun_6)) (me_str) (nomark _)) (ma_nil)) (hg := (g_lrun_int _ _ _)))))) (mss_cons (ms_setIx (i := 1) rfl (.inl v_lrun_1) (me_mod (me_var (i := 8) rfl (.inl v_lrun_8)) (me_int)) (me_var (i := 7) rfl (.inl v_lrun_7))) (mss_one (ms_set (i := 2) nd rfl (.inl v_lrun_2) (me_div (me_var (i := 8) rfl (.inl v_lrun_8)) (me_int)))))) (mss_one (ms_if (mt_cmp (op_eqM hr.units) os_eq (me_var (i := 6) rfl (.inl v_lrun_6)) (me_str) (nomark _)) (mss_one (ms_setIx (i := 1) rfl (.inl v_lrun_1) (me_ix (me_var (i := 3) rfl (.inl v_lrun_3)) (me_int)) (me_var (i := 7) rfl (.inl v_lrun_7)))) (mss_one (ms_if (mt_cmp (op_eqM hr.units) os_eq (me_var (i := 6) rfl (.inl v_lrun_6)) (me_str) (nomark _)) (mss_one (ms_setIx (i := 1) rfl (.inl v_lrun_1) (me_bitand (me_ixV (i := 1) rfl (.inl v_lrun_1) (me_var (i := 7) rfl (.inl v_lrun_7))) (me_ixV (i := 1) rfl (.inl v_lrun_1) (me_ix (me_var (i := 3) rfl (.inl v_lrun_3)) (me_int)))) (me_var (i := 7) rfl (.inl v_lrun_7)))) (mss_one (ms_if (mt_cmp (op_eqM hr.units) os_eq (me_var (i := 6) rfl (.inl v_lrun_6)) (me_str) (nomark _)) (mss_one (ms_setIx (i := 1) rfl (.inl v_lrun_1) (me_bitor (me_ixV (i := 1) rfl (.inl v_lrun_1) (me_var (i := 7) rfl (.inl v_lrun_7))) (me_ixV (i := 1) rfl (.inl v_lrun_1) (me_ix (me_var (i := 3) rfl (.inl v_lrun_3)) (me_int)))) (me_var (i := 7) rfl (.inl v_lrun_7)))) (mss_one (ms_if (mt_cmp (op_eqM hr.units) os_eq (me_var (i := 6) rfl (.inl v_lrun_6)) (me_str) (nomark _)) (mss_cons (ms_set (i := 8) nd rfl (.inl v_lrun_8) (me_add (me_mul (me_int) (me_ixV (i := 1) rfl (.inl v_lrun_1) (me_var (i := 7) rfl (.inl v_lrun_7)))) (me_var (i := 2) rfl (.inl v_lrun_2)))) (mss_cons (ms_setIx (i := 1) rfl (.inl v_lrun_1) (me_mod (me_var (i := 8) rfl (.inl v_lrun_8)) (me_int)) (me_var (i := 7) rfl (.inl v_lrun_7))) (mss_one (ms_set (i := 2) nd rfl (.inl v_lrun_2) (me_div (me_var (i := 8) rfl (.inl v_lrun_8)) (me_int)))))) (mss_one (ms_if (mt_cmp (op_eqM hr.units) os_eq (me_var (i := 6) rfl (.inl v_lrun_6)) (me_str) (nomark _)) (mss_cons (ms_set (i := 8) nd rfl (.inl v_lrun_8) (me_add (me_ixV (i := 1) rfl (.inl v_lrun_1) (me_var (i := 7) rfl (.inl v_lrun_7))) (me_mul (me_int) (me_var (i := 2) rfl (.inl v_lrun_2))))) (mss_cons (ms_setIx (i := 1) rfl (.inl v_lrun_1) (me_div (me_var (i := 8) rfl (.inl v_lrun_8)) (me_int)) (me_var (i := 7) rfl (.inl v_lrun_7))) (mss_one (ms_set (i := 2) nd rfl (.inl v_lrun_2) (me_mod (me_var (i := 8) rfl (.inl v_lrun_8)) (me_int)))))) (mss_one (ms_set (i := 2) nd rfl (.inl v_lrun_2) (me_var (i := 7) rfl (.inl v_lrun_7))))))))))))))))))))))) (mss_one (ms_ret (me_tup (ma_cons (me_var (i := 1) rfl (.inl v_lrun_1)) (ma_cons (me_var (i := 2) rfl (.inl v_lrun_2)) (ma_nil))))))))

abbrev s_lpair_right : Stmt := top 53
abbrev N_lpair_right : List Str := ["_law_deed", "_law_kind", "_law_program", "_law_one", "_law_other", "_law_zone", "_law_cells", "_law_mark"]
theorem sc_lpair_right : FnScope N_lpair_right ["_law_deed", "_law_kind", "_law_program", "_law_one", "_law_other"] (defScope s_lpair_right) := ⟨rfl, rfl, rfl, by decide +kernel, rfl, by decide +kernel, by decide +kernel⟩
theorem v_lpair_right_0 : LV s_lpair_right "_law_deed" := by decide +kernel
theorem v_lpair_right_1 : LV s_lpair_right "_law_kind" := by decide +kernel
theorem v_lpair_right_2 : LV s_lpair_right "_law_program" := by decide +kernel
theorem v_lpair_right_3 : LV s_lpair_right "_law_one" := by decide +kernel
theorem v_lpair_right_4 : LV s_lpair_right "_law_other" := by decide +kernel
theorem v_lpair_right_5 : LV s_lpair_right "_law_zone" := by decide +kernel
theorem v_lpair_right_6 : LV s_lpair_right "_law_cells" := by decide +kernel
theorem v_lpair_right_7 : LV s_lpair_right "_law_mark" := by decide +kernel
theorem g_lpair_right_int : GV "_law_pair_right" s_lpair_right "int" := fun _ _ _ => rfl
theorem g_lpair_right_law_run : GV "_law_pair_right" s_lpair_right "_law_run" := fun _ _ _ => rfl
theorem ok_lpair_right (F : Fun K "_law_pair_right" "_law_pair_right" s_lpair_right f fd) (B : Bn mg) (h_lrun : Fd P w K mg base "_law_run" 2 ["_law_program", "_law_cells", "_law_mark"] [] f_lrun)    :
    FnOk P w K mg base (L2N.CX P w) 4 f fd ["_law_deed", "_law_kind", "_law_program", "_law_one", "_law_other"] (spF K mg 5 [] f_lpair_right) := by
  refine fn_ok F sc_lpair_right (by decide) (by decide) fun cdv A outer s H E hr => ?_
  have nd := sc_lpair_right.nd
  have tk : TkO (cxO P w K mg base N_lpair_right "_law_pair_right" s_lpair_right f cdv A outer s H E) E := L2N.takes_of rfl rfl rfl rfl
  have pn : PnO P w (cxO P w K mg base N_lpair_right "_law_pair_right" s_lpair_right f cdv A outer s H E) := passes_of rfl
  unfold m_lpair_right
  exact mss_cons (ms_set (i := 5) nd rfl (.inl v_lpair_right_5) (me_mul (me_int) (mb_int B.int (ma_cons (me_cmp (op_eqM hr.units) os_eq (me_var (i := 1) rfl (.inl v_lpair_right_1)) (me_str) (nomark _)) (ma_nil)) (hg := (g_lpair_right_int _ _ _))))) (mss_cons (ms_asg (me_fz (mf_call h_lrun hr (by decide) tk (ma_cons (me_var (i := 2) rfl (.inl v_lpair_right_2)) (ma_cons (me_add (me_lst (ma_cons (me_add (me_var (i := 5) rfl (.inl v_lpair_right_5)) (me_var (i := 3) rfl (.inl v_lpair_right_3))) (ma_cons (me_add (me_var (i := 5) rfl (.inl v_lpair_right_5)) (me_var (i := 4) rfl (.inl v_lpair_right_4))) (ma_nil)))) (me_mul (me_lst (ma_cons (me_int) (ma_nil))) (me_int))) (ma_cons (me_int) (ma_nil)))) (lng_cons (lng_cons (lng_cons lng_nil))) (hg := (g_lpair_right_law_run _ _ _)))) (mg_tup rfl (mgs_cons (mg_name (i := 6) nd rfl (.inl v_lpair_right_6)) (mgs_cons (mg_name (i := 7) nd rfl (.inl v_lpair_right_7)) (mgs_nil))))) (mss_cons (ms_if (mt_cmp (op_eqM hr.units) os_eq (me_var (i := 0) rfl (.inl v_lpair_right_0)) (me_str) (nomark _)) (mss_one (ms_ret (me_and (me_cmp (op_eqM hr.units) os_eq (me_ix (me_var (i := 6) rfl (.inl v_lpair_right_6)) (me_int)) (me_add (me_var (i := 5) rfl (.inl v_lpair_right_5)) (me_mod (me_add (me_var (i := 3) rfl (.inl v_lpair_right_3)) (me_var (i := 4) rfl (.inl v_lpair_right_4))) (me_int))) (nomark _)) (me_one (me_cmp (op_eqM hr.units) os_eq (me_var (i := 7) rfl (.inl v_lpair_right_7)) (mb_int B.int (ma_cons (me_cmp op_gt os_gt (me_add (me_var (i := 3) rfl (.inl v_lpair_right_3)) (me_var (i := 4) rfl (.inl v_lpair_right_4))) (me_int) (nomark _)) (ma_nil)) (hg := (g_lpair_right_int _ _ _))) (nomark _)))))) (mss_nil)) (mss_cons (ms_if (mt_cmp (op_eqM hr.units) os_eq (me_var (i := 0) rfl (.inl v_lpair_right_0)) (me_str) (nomark _)) (mss_one (ms_ret (me_and (me_cmp (op_eqM hr.units) os_eq (me_ix (me_var (i := 6) rfl (.inl v_lpair_right_6)) (me_int)) (me_add (me_var (i := 5) rfl (.inl v_lpair_right_5)) (me_mod (me_sub (me_var (i := 3) rfl (.inl v_lpair_right_3)) (me_var (i := 4) rfl (.inl v_lpair_right_4))) (me_int))) (nomark _)) (me_one (me_cmp (op_eqM hr.units) os_eq (me_var (i := 7) rfl (.inl v_lpair_right_7)) (mb_int B.int (ma_cons (me_cmp op_lt os_lt (me_var (i := 3) rfl (.inl v_lpair_right_3)) (me_var (i := 4) rfl (.inl v_lpair_right_4)) (nomark _)) (ma_nil)) (hg := (g_lpair_right_int _ _ _))) (nomark _)))))) (mss_nil)) (mss_one (ms_ret (me_and (me_cmp (op_eqM hr.units) os_eq (me_ix (me_var (i := 6) rfl (.inl v_lpair_right_6)) (me_int)) (me_add (mb_int B.int (ma_cons (me_cmp op_ge os_ge (me_var (i := 3) rfl (.inl v_lpair_right_3)) (me_var (i := 4) rfl (.inl v_lpair_right_4)) (nomark _)) (ma_nil)) (hg := (g_lpair_right_int _ _ _))) (mb_int B.int (ma_cons (me_cmp op_gt os_gt (me_var (i := 3) rfl (.inl v_lpair_right_3)) (me_var (i := 4) rfl (.inl v_lpair_right_4)) (nomark _)) (ma_nil)) (hg := (g_lpair_right_int _ _ _)))) (nomark _)) (me_one (me_cmp (op_eqM hr.units) os_eq (me_var (i := 7) rfl (.inl v_lpair_right_7)) (me_int) (nomark _)))))))))

abbrev s_lright8 : Stmt := top 54
abbrev N_lright8 : List Str := ["_law_deed", "_law_kind", "_law_program", "_law_one", "_law_other"]
theorem sc_lright8 : FnScope N_lright8 ["_law_deed", "_law_kind", "_law_program"] (defScope s_lright8) := ⟨rfl, rfl, rfl, by decide +kernel, rfl, by decide +kernel, by decide +kernel⟩
theorem v_lright8_0 : (defScope s_lright8).names.lookup ("_law_deed" : Str) = some NameKind.cell := by decide +kernel
theorem v_lright8_1 : (defScope s_lright8).names.lookup ("_law_kind" : Str) = some NameKind.cell := by decide +kernel
theorem v_lright8_2 : (defScope s_lright8).names.lookup ("_law_program" : Str) = some NameKind.cell := by decide +kernel
theorem v_lright8_3 : (defScope s_lright8).names.lookup ("_law_one" : Str) = some NameKind.cell := by decide +kernel
theorem g_lright8_range : GV "_law_right" s_lright8 "range" := fun _ _ _ => rfl
theorem g_lright8_all : GV "_law_right" s_lright8 "all" := fun _ _ _ => rfl
theorem ok_lright8 (F : Fun K "_law_right" "_law_right" s_lright8 f fd) (B : Bn mg) (h_lpair_right : Fd P w K mg base "_law_pair_right" 4 ["_law_deed", "_law_kind", "_law_program", "_law_one", "_law_other"] [] f_lpair_right)    :
    FnOk P w K mg base (L2N.CX P w) 6 f fd ["_law_deed", "_law_kind", "_law_program"] (spF K mg 3 [] f_lright8) := by
  refine fn_ok F sc_lright8 (by decide) (by decide) fun cdv A outer s H E hr => ?_
  have nd := sc_lright8.nd
  have tk : TkO (cxO P w K mg base N_lright8 "_law_right" s_lright8 f cdv A outer s H E) E := L2N.takes_of rfl rfl rfl rfl
  have pn : PnO P w (cxO P w K mg base N_lright8 "_law_right" s_lright8 f cdv A outer s H E) := passes_of rfl
  unfold m_lright8
  exact mss_cons (ms_for pn rfl (mi_r1 B.range (ma_cons (me_int) (ma_nil)) (hg := (g_lright8_range _ _ _))) (mg_name (i := 3) nd rfl (.inr v_lright8_3)) (mss_one (ms_if (mt_not (mt_val (mb_all rfl B.all (ma_cons (me_fz (mo_lc (own := [("_law_other", 4)]) (g := .nm 4) rfl nd (mi_r1 B.range (ma_cons (me_int) (ma_nil)) (hg := (g_lright8_range _ _ _))) (blkOk_at (N' := ["_law_deed", "_law_kind", "_law_program", "_law_one", "_law_other"]) (sc' := defScope s_lright8) rfl rfl (by decide +kernel)) (fun _ _ _ _ _ => pg_name (i := 4) nd rfl (Or.inl rfl)) (fun _ _ _ _ _ => mts_nil) (fun _ _ _ _ _ => me_fz (mf_call0 h_lpair_right hr (by decide) (ma_cons (me_var (i := 0) rfl (by first | exact .inr (.inr rfl) | exact .inl rfl | exact .inr (.inl rfl))) (ma_cons (me_var (i := 1) rfl (by first | exact .inr (.inr rfl) | exact .inl rfl | exact .inr (.inl rfl))) (ma_cons (me_var (i := 2) rfl (by first | exact .inr (.inr rfl) | exact .inl rfl | exact .inr (.inl rfl))) (ma_cons (me_var (i := 3) rfl (by first | exact .inr (.inr rfl) | exact .inl rfl | exact .inr (.inl rfl))) (ma_cons (me_var (i := 4) rfl (.inl rfl)) (ma_nil)))))) (lng_cons (lng_cons (lng_cons (lng_cons (lng_cons lng_nil))))) (hg := rfl))) (hbs := hbs_of rfl))) (ma_nil)) (hg := (g_lright8_all _ _ _))))) (mss_one (ms_ret (me_bl))) (mss_nil)))) (mss_one (ms_ret (me_bl)))

abbrev s_lcell : Stmt := top 46
abbrev N_lcell : List Str := ["_law_script", "_law_k"]
theorem sc_lcell : FnScope N_lcell ["_law_script", "_law_k"] (defScope s_lcell) := ⟨rfl, rfl, rfl, by decide +kernel, rfl, by decide +kernel, by decide +kernel⟩
theorem v_lcell_0 : LV s_lcell "_law_script" := by decide +kernel
theorem v_lcell_1 : LV s_lcell "_law_k" := by decide +kernel
theorem g_lcell_len : GV "_law_cell" s_lcell "len" := fun _ _ _ => rfl
theorem ok_lcell (F : Fun K "_law_cell" "_law_cell" s_lcell f fd) (B : Bn mg)     :
    FnOk P w K mg base (L2N.CX P w) 2 f fd ["_law_script", "_law_k"] (spF K mg 2 [] f_lcell) := by
  refine fn_ok F sc_lcell (by decide) (by decide) fun cdv A outer s H E hr => ?_
  have nd := sc_lcell.nd
  have tk : TkO (cxO P w K mg base N_lcell "_law_cell" s_lcell f cdv A outer s H E) E := L2N.takes_of rfl rfl rfl rfl
  have pn : PnO P w (cxO P w K mg base N_lcell "_law_cell" s_lcell f cdv A outer s H E) := passes_of rfl
  unfold m_lcell
  exact mss_cons (ms_if (mt_cmp op_lt os_lt (me_var (i := 1) rfl (.inl v_lcell_1)) (mb_len B.len (ma_cons (me_var (i := 0) rfl (.inl v_lcell_0)) (ma_nil)) (hg := (g_lcell_len _ _ _))) (nomark _)) (mss_one (ms_ret (me_ix (me_var (i := 0) rfl (.inl v_lcell_0)) (me_var (i := 1) rfl (.inl v_lcell_1))))) (mss_nil)) (mss_cons (ms_if (mt_cmp (op_eqM hr.units) os_eq (mb_len B.len (ma_cons (me_var (i := 0) rfl (.inl v_lcell_0)) (ma_nil)) (hg := (g_lcell_len _ _ _))) (me_int) (nomark _)) (mss_one (ms_ret (me_mul (me_int) (me_add (me_var (i := 1) rfl (.inl v_lcell_1)) (me_int))))) (mss_nil)) (mss_one (ms_ret (me_add (me_ix (me_var (i := 0) rfl (.inl v_lcell_0)) (me_mod (me_var (i := 1) rfl (.inl v_lcell_1)) (mb_len B.len (ma_cons (me_var (i := 0) rfl (.inl v_lcell_0)) (ma_nil)) (hg := (g_lcell_len _ _ _))))) (me_mul (me_int) (me_var (i := 1) rfl (.inl v_lcell_1)))))))

abbrev s_lspoilt6 : Stmt := top 55
abbrev N_lspoilt6 : List Str := ["_law_tables", "_law_rows", "_law_way", "_law_at", "_law_to", "_law_byte", "_law_row"]
theorem sc_lspoilt6 : FnScope N_lspoilt6 ["_law_tables", "_law_rows", "_law_way", "_law_at", "_law_to", "_law_byte", "_law_row"] (defScope s_lspoilt6) := ⟨rfl, rfl, rfl, by decide +kernel, rfl, by decide +kernel, by decide +kernel⟩
theorem v_lspoilt6_0 : LV s_lspoilt6 "_law_tables" := by decide +kernel
theorem v_lspoilt6_1 : LV s_lspoilt6 "_law_rows" := by decide +kernel
theorem v_lspoilt6_2 : LV s_lspoilt6 "_law_way" := by decide +kernel
theorem v_lspoilt6_3 : LV s_lspoilt6 "_law_at" := by decide +kernel
theorem v_lspoilt6_4 : LV s_lspoilt6 "_law_to" := by decide +kernel
theorem v_lspoilt6_5 : LV s_lspoilt6 "_law_byte" := by decide +kernel
theorem v_lspoilt6_6 : LV s_lspoilt6 "_law_row" := by decide +kernel
theorem g_lspoilt6_len : GV "_law_spoilt" s_lspoilt6 "len" := fun _ _ _ => rfl
theorem ok_lspoilt6 (F : Fun K "_law_spoilt" "_law_spoilt" s_lspoilt6 f fd) (B : Bn mg)     :
    FnOk P w K mg base (L2N.CX P w) 2 f fd ["_law_tables", "_law_rows", "_law_way", "_law_at", "_law_to", "_law_byte", "_law_row"] (spF K mg 7 [0, 1] f_lspoilt6) := by
  refine fn_ok F sc_lspoilt6 (by decide) (by decide) fun cdv A outer s H E hr => ?_
  have nd := sc_lspoilt6.nd
  have tk : TkO (cxO P w K mg base N_lspoilt6 "_law_spoilt" s_lspoilt6 f cdv A outer s H E) E := L2N.takes_of rfl rfl rfl rfl
  have pn : PnO P w (cxO P w K mg base N_lspoilt6 "_law_spoilt" s_lspoilt6 f cdv A outer s H E) := passes_of rfl
  unfold m_lspoilt6
  exact mss_cons (ms_set (i := 3) nd rfl (.inl v_lspoilt6_3) (me_mod (me_var (i := 3) rfl (.inl v_lspoilt6_3)) (me_lenV B.len (i := 1) rfl (.inl v_lspoilt6_1) (hg := (g_lspoilt6_len _ _ _))))) (mss_one (ms_if (mt_cmp (op_eqM hr.units) os_eq (me_var (i := 2) rfl (.inl v_lspoilt6_2)) (me_int) (nomark _)) (mss_one (ms_setL (i := 0) rfl (.inl v_lspoilt6_0) (me_mod (me_add (me_add (me_ixL (i := 0) rfl (.inl v_lspoilt6_0) (me_mod (me_var (i := 4) rfl (.inl v_lspoilt6_4)) (me_int)) (k := 5) rfl (.inl v_lspoilt6_5)) (me_int)) (me_var (i := 3) rfl (.inl v_lspoilt6_3))) (me_int)) (me_mod (me_var (i := 4) rfl (.inl v_lspoilt6_4)) (me_int)) (k := 5) rfl (.inl v_lspoilt6_5))) (mss_one (ms_if (mt_cmp (op_eqM hr.units) os_eq (me_var (i := 2) rfl (.inl v_lspoilt6_2)) (me_int) (nomark _)) (mss_one (ms_expr (me_lm1 ls_popAt PySem.F.slot_list_pop PySem.F.type_list_pop mt_popAt (i := 1) rfl (.inl v_lspoilt6_1) (ma_cons (me_var (i := 3) rfl (.inl v_lspoilt6_3)) (ma_nil))))) (mss_one (ms_if (mt_cmp (op_eqM hr.units) os_eq (me_var (i := 2) rfl (.inl v_lspoilt6_2)) (me_int) (nomark _)) (mss_one (ms_expr (me_lm1 ls_insert PySem.F.slot_list_insert PySem.F.type_list_insert mt_insert (i := 1) rfl (.inl v_lspoilt6_1) (ma_cons (me_mod (me_var (i := 4) rfl (.inl v_lspoilt6_4)) (me_add (me_lenV B.len (i := 1) rfl (.inl v_lspoilt6_1) (hg := (g_lspoilt6_len _ _ _))) (me_int))) (ma_cons (me_ixV (i := 1) rfl (.inl v_lspoilt6_1) (me_var (i := 3) rfl (.inl v_lspoilt6_3))) (ma_nil)))))) (mss_one (ms_if (mt_cmp (op_eqM hr.units) os_eq (me_var (i := 2) rfl (.inl v_lspoilt6_2)) (me_int) (nomark _)) (mss_one (ms_expr (me_lm1 ls_insert PySem.F.slot_list_insert PySem.F.type_list_insert mt_insert (i := 1) rfl (.inl v_lspoilt6_1) (ma_cons (me_mod (me_var (i := 4) rfl (.inl v_lspoilt6_4)) (me_lenV B.len (i := 1) rfl (.inl v_lspoilt6_1) (hg := (g_lspoilt6_len _ _ _)))) (ma_cons (me_lm1 ls_popAt PySem.F.slot_list_pop PySem.F.type_list_pop mt_popAt (i := 1) rfl (.inl v_lspoilt6_1) (ma_cons (me_var (i := 3) rfl (.inl v_lspoilt6_3)) (ma_nil))) (ma_nil)))))) (mss_one (ms_if (mt_cmp (op_eqM hr.units) os_eq (me_var (i := 2) rfl (.inl v_lspoilt6_2)) (me_int) (nomark _)) (mss_one (ms_if (mt_cmp (op_eqM hr.units) os_eq (me_ix (me_ixV (i := 1) rfl (.inl v_lspoilt6_1) (me_var (i := 3) rfl (.inl v_lspoilt6_3))) (me_int)) (me_str) (nomark _)) (mss_one (ms_setIx (i := 1) rfl (.inl v_lspoilt6_1) (me_tup (ma_cons (me_str) (ma_cons (me_int) (ma_nil)))) (me_var (i := 3) rfl (.inl v_lspoilt6_3)))) (mss_one (ms_if (mt_cmp (op_eqM hr.units) os_eq (me_ix (me_ixV (i := 1) rfl (.inl v_lspoilt6_1) (me_var (i := 3) rfl (.inl v_lspoilt6_3))) (me_int)) (me_str) (nomark _)) (mss_one (ms_setIx (i := 1) rfl (.inl v_lspoilt6_1) (me_tup (ma_cons (me_str) (ma_cons (me_ix (me_ixV (i := 1) rfl (.inl v_lspoilt6_1) (me_var (i := 3) rfl (.inl v_lspoilt6_3))) (me_int)) (ma_cons (me_mod (me_add (me_ix (me_ixV (i := 1) rfl (.inl v_lspoilt6_1) (me_var (i := 3) rfl (.inl v_lspoilt6_3))) (me_int)) (me_int)) (me_int)) (ma_nil))))) (me_var (i := 3) rfl (.inl v_lspoilt6_3)))) (mss_one (ms_setIx (i := 1) rfl (.inl v_lspoilt6_1) (me_add (me_sl (me_ixV (i := 1) rfl (.inl v_lspoilt6_1) (me_var (i := 3) rfl (.inl v_lspoilt6_3))) (mp_none) (mp_some (me_neg (me_int)))) (me_tup (ma_cons (me_mod (me_add (me_ix (me_ixV (i := 1) rfl (.inl v_lspoilt6_1) (me_var (i := 3) rfl (.inl v_lspoilt6_3))) (me_neg (me_int))) (me_int)) (me_int)) (ma_nil)))) (me_var (i := 3) rfl (.inl v_lspoilt6_3)))))))) (mss_one (ms_if (mt_cmp (op_eqM hr.units) os_eq (me_var (i := 2) rfl (.inl v_lspoilt6_2)) (me_int) (nomark _)) (mss_one (ms_expr (me_lm1 ls_insert PySem.F.slot_list_insert PySem.F.type_list_insert mt_insert (i := 1) rfl (.inl v_lspoilt6_1) (ma_cons (me_mod (me_var (i := 4) rfl (.inl v_lspoilt6_4)) (me_add (me_lenV B.len (i := 1) rfl (.inl v_lspoilt6_1) (hg := (g_lspoilt6_len _ _ _))) (me_int))) (ma_cons (me_var (i := 6) rfl (.inl v_lspoilt6_6)) (ma_nil)))))) (mss_nil)))))))))))))

abbrev s_pis_table : Stmt := top 33
abbrev N_pis_table : List Str := ["numbers", "number"]
theorem sc_pis_table : FnScope N_pis_table ["numbers"] (defScope s_pis_table) := ⟨rfl, rfl, rfl, by decide +kernel, rfl, by decide +kernel, by decide +kernel⟩
theorem v_pis_table_0 : LV s_pis_table "numbers" := by decide +kernel
theorem g_pis_table_len : GV "is_table" s_pis_table "len" := fun _ _ _ => rfl
theorem g_pis_table_BYTES : GV "is_table" s_pis_table "BYTES" := fun _ _ _ => rfl
theorem g_pis_table_all : GV "is_table" s_pis_table "all" := fun _ _ _ => rfl
theorem ok_pis_table (F : Fun K "is_table" "is_table" s_pis_table f fd) (B : Bn mg)    (c_BYTES : Cst K mg "BYTES" (.int 256)) :
    FnOk P w K mg base (L2N.CX P w) 2 f fd ["numbers"] (spF K mg 1 [] f_pis_table) := by
  refine fn_ok F sc_pis_table (by decide) (by decide) fun cdv A outer s H E hr => ?_
  have nd := sc_pis_table.nd
  have tk : TkO (cxO P w K mg base N_pis_table "is_table" s_pis_table f cdv A outer s H E) E := L2N.takes_of rfl rfl rfl rfl
  have pn : PnO P w (cxO P w K mg base N_pis_table "is_table" s_pis_table f cdv A outer s H E) := passes_of rfl
  unfold m_pis_table
  exact mss_one (ms_ret (me_and (me_cmp (op_eqM hr.units) os_eq (mb_len B.len (ma_cons (me_var (i := 0) rfl (.inl v_pis_table_0)) (ma_nil)) (hg := (g_pis_table_len _ _ _))) (mf_con c_BYTES (hg := (g_pis_table_BYTES _ _ _))) (nomark _)) (me_one (mb_all rfl B.all (ma_cons (me_fz (mo_lc (own := [("number", 1)]) (g := .nm 1) rfl nd (mi_val (me_var (i := 0) rfl (.inl v_pis_table_0))) (blkOk_at (N' := ["numbers", "number"]) (sc' := defScope s_pis_table) rfl rfl (by decide +kernel)) (fun _ _ _ _ _ => pg_name (i := 1) nd rfl (Or.inl rfl)) (fun _ _ _ _ _ => mts_nil) (fun _ _ _ _ _ => me_chain op_le os_le op_lt os_lt (me_int) (me_var (i := 1) rfl (.inl rfl)) (mf_con c_BYTES (hg := rfl))) (hbs := hbs_of rfl))) (ma_nil)) (hg := (g_pis_table_all _ _ _))))))

abbrev s_pparts_due : Stmt := top 31
abbrev N_pparts_due : List Str := ["word"]
theorem sc_pparts_due : FnScope N_pparts_due ["word"] (defScope s_pparts_due) := ⟨rfl, rfl, rfl, by decide +kernel, rfl, by decide +kernel, by decide +kernel⟩
theorem v_pparts_due_0 : LV s_pparts_due "word" := by decide +kernel
theorem g_pparts_due_OTHER_PARTS : GV "parts_due" s_pparts_due "OTHER_PARTS" := fun _ _ _ => rfl
theorem g_pparts_due_PARTS : GV "parts_due" s_pparts_due "PARTS" := fun _ _ _ => rfl
theorem ok_pparts_due (F : Fun K "parts_due" "parts_due" s_pparts_due f fd) (B : Bn mg)    (c_OTHER_PARTS : DCst K w mg "OTHER_PARTS" [("look", (.str "ct")), ("mark", (.str "m"))]) (c_PARTS : DCst K w mg "PARTS" [("put", (.str "cb")), ("copy", (.str "cc")), ("add", (.str "cc")), ("addc", (.str "cc")), ("and", (.str "cc")), ("or", (.str "cc")), ("left", (.str "c")), ("right", (.str "c"))]) :
    FnOk P w K mg base (L2N.CX P w) 2 f fd ["word"] (spF K mg 1 [] f_pparts_due) := by
  refine fn_ok F sc_pparts_due (by decide) (by decide) fun cdv A outer s H E hr => ?_
  have nd := sc_pparts_due.nd
  have tk : TkO (cxO P w K mg base N_pparts_due "parts_due" s_pparts_due f cdv A outer s H E) E := L2N.takes_of rfl rfl rfl rfl
  have pn : PnO P w (cxO P w K mg base N_pparts_due "parts_due" s_pparts_due f cdv A outer s H E) := passes_of rfl
  unfold m_pparts_due
  exact mss_cons (ms_if (mt_kin c_OTHER_PARTS (me_var (i := 0) rfl (.inl v_pparts_due_0)) (hg := (g_pparts_due_OTHER_PARTS _ _ _))) (mss_one (ms_ret (me_kix c_OTHER_PARTS (me_var (i := 0) rfl (.inl v_pparts_due_0)) (hg := (g_pparts_due_OTHER_PARTS _ _ _))))) (mss_nil)) (mss_one (ms_ret (me_kget c_PARTS (me_var (i := 0) rfl (.inl v_pparts_due_0)) ⟨rfl, rfl, rfl, rfl⟩ (hg := (g_pparts_due_PARTS _ _ _)))))

abbrev s_pis_row : Stmt := top 32
abbrev N_pis_row : List Str := ["row", "cells", "tables", "due", "bounds", "number", "kind"]
theorem sc_pis_row : FnScope N_pis_row ["row", "cells", "tables"] (defScope s_pis_row) := ⟨rfl, rfl, rfl, by decide +kernel, rfl, by decide +kernel, by decide +kernel⟩
theorem v_pis_row_0 : LV s_pis_row "row" := by decide +kernel
theorem v_pis_row_1 : LV s_pis_row "cells" := by decide +kernel
theorem v_pis_row_2 : LV s_pis_row "tables" := by decide +kernel
theorem v_pis_row_3 : LV s_pis_row "due" := by decide +kernel
theorem v_pis_row_4 : (defScope s_pis_row).names.lookup ("bounds" : Str) = some NameKind.cell := by decide +kernel
theorem g_pis_row_parts_due : GV "is_row" s_pis_row "parts_due" := fun _ _ _ => rfl
theorem g_pis_row_len : GV "is_row" s_pis_row "len" := fun _ _ _ => rfl
theorem g_pis_row_BYTES : GV "is_row" s_pis_row "BYTES" := fun _ _ _ => rfl
theorem g_pis_row_zip : GV "is_row" s_pis_row "zip" := fun _ _ _ => rfl
theorem g_pis_row_all : GV "is_row" s_pis_row "all" := fun _ _ _ => rfl
theorem ok_pis_row (F : Fun K "is_row" "is_row" s_pis_row f fd) (B : Bn mg) (h_pparts_due : Fd P w K mg base "parts_due" 2 ["word"] [] f_pparts_due)   (c_BYTES : Cst K mg "BYTES" (.int 256)) :
    FnOk P w K mg base (L2N.CX P w) 4 f fd ["row", "cells", "tables"] (spF K mg 3 [] f_pis_row) := by
  refine fn_ok F sc_pis_row (by decide) (by decide) fun cdv A outer s H E hr => ?_
  have nd := sc_pis_row.nd
  have tk : TkO (cxO P w K mg base N_pis_row "is_row" s_pis_row f cdv A outer s H E) E := L2N.takes_of rfl rfl rfl rfl
  have pn : PnO P w (cxO P w K mg base N_pis_row "is_row" s_pis_row f cdv A outer s H E) := passes_of rfl
  unfold m_pis_row
  exact mss_cons (ms_set (i := 3) nd rfl (.inl v_pis_row_3) (me_fz (mf_call h_pparts_due hr (by decide) tk (ma_cons (me_ix (me_var (i := 0) rfl (.inl v_pis_row_0)) (me_int)) (ma_nil)) (lng_cons lng_nil) (hg := (g_pis_row_parts_due _ _ _))))) (mss_cons (ms_if (PW.pt (mw_or (mt_cmp op_isN os_isN (me_var (i := 3) rfl (.inl v_pis_row_3)) (me_non) (nomark _)) (mw_one_or (mt_cmp (op_neM hr.units) os_ne (mb_len B.len (ma_cons (me_var (i := 0) rfl (.inl v_pis_row_0)) (ma_nil)) (hg := (g_pis_row_len _ _ _))) (me_add (me_int) (mb_len B.len (ma_cons (me_var (i := 3) rfl (.inl v_pis_row_3)) (ma_nil)) (hg := (g_pis_row_len _ _ _)))) (nomark _))))) (mss_one (ms_ret (me_bl))) (mss_nil)) (mss_cons (ms_set (i := 4) nd rfl (.inr v_pis_row_4) (me_dict (dp_str (me_var (i := 1) rfl (.inl v_pis_row_1)) (dp_str (mf_con c_BYTES (hg := (g_pis_row_BYTES _ _ _))) (dp_str (me_var (i := 2) rfl (.inl v_pis_row_2)) (dp_str (me_int) (dp_nil))))))) (mss_one (ms_ret (mb_all rfl B.all (ma_cons (me_fz (mo_lc (own := [("number", 5), ("kind", 6)]) (g := .tp [5, 6]) rfl nd (mi_zip B.zip (ma_cons (me_sl (me_var (i := 0) rfl (.inl v_pis_row_0)) (mp_some (me_int)) (mp_none)) (ma_cons (me_var (i := 3) rfl (.inl v_pis_row_3)) (ma_nil))) (hg := (g_pis_row_zip _ _ _))) (blkOk_at (N' := ["row", "cells", "tables", "due", "bounds", "number", "kind"]) (sc' := defScope s_pis_row) rfl rfl (by decide +kernel)) (fun _ _ _ _ _ => pg_tup rfl (pgs_cons (pg_name (i := 5) nd rfl (Or.inl rfl)) (pgs_cons (pg_name (i := 6) nd rfl (Or.inl rfl)) (pgs_nil)))) (fun _ _ _ _ _ => mts_nil) (fun _ _ _ _ _ => me_chain op_le os_le op_lt os_lt (me_int) (me_var (i := 5) rfl (.inl rfl)) (me_dix hr.units (me_var (i := 4) rfl (by first | exact .inr (.inr rfl) | exact .inl rfl | exact .inr (.inl rfl))) (me_var (i := 6) rfl (.inl rfl)))) (hbs := hbs_of rfl))) (ma_nil)) (hg := (g_pis_row_all _ _ _)))))))

abbrev s_phold_program : Stmt := top 34
abbrev N_phold_program : List Str := ["program", "cells", "tables", "rows", "at", "numbers", "row"]
theorem sc_phold_program : FnScope N_phold_program ["program", "cells"] (defScope s_phold_program) := ⟨rfl, rfl, rfl, by decide +kernel, rfl, by decide +kernel, by decide +kernel⟩
theorem v_phold_program_0 : LV s_phold_program "program" := by decide +kernel
theorem v_phold_program_1 : LV s_phold_program "cells" := by decide +kernel
theorem v_phold_program_2 : LV s_phold_program "tables" := by decide +kernel
theorem v_phold_program_3 : LV s_phold_program "rows" := by decide +kernel
theorem v_phold_program_4 : LV s_phold_program "at" := by decide +kernel
theorem v_phold_program_5 : LV s_phold_program "numbers" := by decide +kernel
theorem v_phold_program_6 : LV s_phold_program "row" := by decide +kernel
theorem g_phold_program_enumerate : GV "hold_program" s_phold_program "enumerate" := fun _ _ _ => rfl
theorem g_phold_program_MOST_TABLES : GV "hold_program" s_phold_program "MOST_TABLES" := fun _ _ _ => rfl
theorem g_phold_program_is_table : GV "hold_program" s_phold_program "is_table" := fun _ _ _ => rfl
theorem g_phold_program_NoTable : GV "hold_program" s_phold_program "NoTable" := fun _ _ _ => rfl
theorem g_phold_program_MOST_ROWS : GV "hold_program" s_phold_program "MOST_ROWS" := fun _ _ _ => rfl
theorem g_phold_program_len : GV "hold_program" s_phold_program "len" := fun _ _ _ => rfl
theorem g_phold_program_is_row : GV "hold_program" s_phold_program "is_row" := fun _ _ _ => rfl
theorem g_phold_program_NoRow : GV "hold_program" s_phold_program "NoRow" := fun _ _ _ => rfl
theorem ok_phold_program (F : Fun K "hold_program" "hold_program" s_phold_program f fd) (B : Bn mg) (h_pis_table : Fd P w K mg base "is_table" 2 ["numbers"] [] f_pis_table) (h_pis_row : Fd P w K mg base "is_row" 4 ["row", "cells", "tables"] [] f_pis_row)  (xcl1_NoTable_at : Cl1 P w K mg base "NoTable" "at") (xcl1_NoRow_at : Cl1 P w K mg base "NoRow" "at") (c_MOST_TABLES : Cst K mg "MOST_TABLES" (.int 16)) (c_MOST_ROWS : Cst K mg "MOST_ROWS" (.int 9000)) :
    FnOk P w K mg base (L2N.CX P w) 6 f fd ["program", "cells"] (spF K mg 2 [] f_phold_program) := by
  refine fn_ok F sc_phold_program (by decide) (by decide) fun cdv A outer s H E hr => ?_
  have nd := sc_phold_program.nd
  have tk : TkO (cxO P w K mg base N_phold_program "hold_program" s_phold_program f cdv A outer s H E) E := L2N.takes_of rfl rfl rfl rfl
  have pn : PnO P w (cxO P w K mg base N_phold_program "hold_program" s_phold_program f cdv A outer s H E) := passes_of rfl
  unfold m_phold_program
  exact mss_cons (ms_asg (me_var (i := 0) rfl (.inl v_phold_program_0)) (mg_tup rfl (mgs_cons (mg_name (i := 2) nd rfl (.inl v_phold_program_2)) (mgs_cons (mg_name (i := 3) nd rfl (.inl v_phold_program_3)) (mgs_nil))))) (mss_cons (ms_for pn rfl (mi_enumT B.enumerate (ma_cons (me_var (i := 2) rfl (.inl v_phold_program_2)) (ma_nil)) (hg := (g_phold_program_enumerate _ _ _))) (mg_tup rfl (mgs_cons (mg_name (i := 4) nd rfl (.inl v_phold_program_4)) (mgs_cons (mg_name (i := 5) nd rfl (.inl v_phold_program_5)) (mgs_nil)))) (mss_one (ms_if (PW.pt (mw_or (mt_cmp (op_eqM hr.units) os_eq (me_var (i := 4) rfl (.inl v_phold_program_4)) (mf_con c_MOST_TABLES (hg := (g_phold_program_MOST_TABLES _ _ _))) (nomark _)) (mw_one_or (mt_not (mt_val (me_fz (mf_call h_pis_table hr (by decide) tk (ma_cons (me_var (i := 5) rfl (.inl v_phold_program_5)) (ma_nil)) (lng_cons lng_nil) (hg := (g_phold_program_is_table _ _ _))))))))) (mss_one (ms_raise1 xcl1_NoTable_at rfl hr (by decide) tk (g_phold_program_NoTable _ _ _) (me_var (i := 4) rfl (.inl v_phold_program_4)))) (mss_nil)))) (mss_one (ms_for pn rfl (mi_enumT B.enumerate (ma_cons (me_var (i := 3) rfl (.inl v_phold_program_3)) (ma_nil)) (hg := (g_phold_program_enumerate _ _ _))) (mg_tup rfl (mgs_cons (mg_name (i := 4) nd rfl (.inl v_phold_program_4)) (mgs_cons (mg_name (i := 6) nd rfl (.inl v_phold_program_6)) (mgs_nil)))) (mss_one (ms_if (PW.pt (mw_or (mt_cmp (op_eqM hr.units) os_eq (me_var (i := 4) rfl (.inl v_phold_program_4)) (mf_con c_MOST_ROWS (hg := (g_phold_program_MOST_ROWS _ _ _))) (nomark _)) (mw_one_or (mt_not (mt_val (me_fz (mf_call h_pis_row hr (by decide) tk (ma_cons (me_var (i := 6) rfl (.inl v_phold_program_6)) (ma_cons (me_var (i := 1) rfl (.inl v_phold_program_1)) (ma_cons (mb_len B.len (ma_cons (me_var (i := 2) rfl (.inl v_phold_program_2)) (ma_nil)) (hg := (g_phold_program_len _ _ _))) (ma_nil)))) (lng_cons (lng_cons (lng_cons lng_nil))) (hg := (g_phold_program_is_row _ _ _))))))))) (mss_one (ms_raise1 xcl1_NoRow_at rfl hr (by decide) tk (g_phold_program_NoRow _ _ _) (me_var (i := 4) rfl (.inl v_phold_program_4)))) (mss_nil))))))

abbrev s_pshift_step : Stmt := top 36
abbrev N_pshift_step : List Str := ["word", "cells", "one", "mark", "byte"]
theorem sc_pshift_step : FnScope N_pshift_step ["word", "cells", "one", "mark"] (defScope s_pshift_step) := ⟨rfl, rfl, rfl, by decide +kernel, rfl, by decide +kernel, by decide +kernel⟩
theorem v_pshift_step_0 : LV s_pshift_step "word" := by decide +kernel
theorem v_pshift_step_1 : LV s_pshift_step "cells" := by decide +kernel
theorem v_pshift_step_2 : LV s_pshift_step "one" := by decide +kernel
theorem v_pshift_step_3 : LV s_pshift_step "mark" := by decide +kernel
theorem v_pshift_step_4 : LV s_pshift_step "byte" := by decide +kernel
theorem g_pshift_step_BYTES : GV "shift_step" s_pshift_step "BYTES" := fun _ _ _ => rfl
theorem ok_pshift_step (F : Fun K "shift_step" "shift_step" s_pshift_step f fd) (B : Bn mg)    (c_BYTES : Cst K mg "BYTES" (.int 256)) :
    FnOk P w K mg base (L2N.CX P w) 2 f fd ["word", "cells", "one", "mark"] (spF K mg 4 [1] f_pshift_step) := by
  refine fn_ok F sc_pshift_step (by decide) (by decide) fun cdv A outer s H E hr => ?_
  have nd := sc_pshift_step.nd
  have tk : TkO (cxO P w K mg base N_pshift_step "shift_step" s_pshift_step f cdv A outer s H E) E := L2N.takes_of rfl rfl rfl rfl
  have pn : PnO P w (cxO P w K mg base N_pshift_step "shift_step" s_pshift_step f cdv A outer s H E) := passes_of rfl
  unfold m_pshift_step
  exact mss_cons (ms_set (i := 4) nd rfl (.inl v_pshift_step_4) (me_ixV (i := 1) rfl (.inl v_pshift_step_1) (me_var (i := 2) rfl (.inl v_pshift_step_2)))) (mss_cons (ms_if (mt_cmp (op_eqM hr.units) os_eq (me_var (i := 0) rfl (.inl v_pshift_step_0)) (me_str) (nomark _)) (mss_cons (ms_setIx (i := 1) rfl (.inl v_pshift_step_1) (me_mod (me_add (me_mul (me_int) (me_var (i := 4) rfl (.inl v_pshift_step_4))) (me_var (i := 3) rfl (.inl v_pshift_step_3))) (mf_con c_BYTES (hg := (g_pshift_step_BYTES _ _ _)))) (me_var (i := 2) rfl (.inl v_pshift_step_2))) (mss_one (ms_ret (me_div (me_var (i := 4) rfl (.inl v_pshift_step_4)) (me_int))))) (mss_nil)) (mss_cons (ms_setIx (i := 1) rfl (.inl v_pshift_step_1) (me_add (me_div (me_var (i := 4) rfl (.inl v_pshift_step_4)) (me_int)) (me_mul (me_int) (me_var (i := 3) rfl (.inl v_pshift_step_3)))) (me_var (i := 2) rfl (.inl v_pshift_step_2))) (mss_one (ms_ret (me_mod (me_var (i := 4) rfl (.inl v_pshift_step_4)) (me_int))))))

abbrev s_psum_step : Stmt := top 35
abbrev N_psum_step : List Str := ["word", "cells", "one", "other", "mark", "total"]
theorem sc_psum_step : FnScope N_psum_step ["word", "cells", "one", "other", "mark"] (defScope s_psum_step) := ⟨rfl, rfl, rfl, by decide +kernel, rfl, by decide +kernel, by decide +kernel⟩
theorem v_psum_step_0 : LV s_psum_step "word" := by decide +kernel
theorem v_psum_step_1 : LV s_psum_step "cells" := by decide +kernel
theorem v_psum_step_2 : LV s_psum_step "one" := by decide +kernel
theorem v_psum_step_3 : LV s_psum_step "other" := by decide +kernel
theorem v_psum_step_4 : LV s_psum_step "mark" := by decide +kernel
theorem v_psum_step_5 : LV s_psum_step "total" := by decide +kernel
theorem g_psum_step_BYTES : GV "sum_step" s_psum_step "BYTES" := fun _ _ _ => rfl
theorem ok_psum_step (F : Fun K "sum_step" "sum_step" s_psum_step f fd) (B : Bn mg)    (c_BYTES : Cst K mg "BYTES" (.int 256)) :
    FnOk P w K mg base (L2N.CX P w) 2 f fd ["word", "cells", "one", "other", "mark"] (spF K mg 5 [1] f_psum_step) := by
  refine fn_ok F sc_psum_step (by decide) (by decide) fun cdv A outer s H E hr => ?_
  have nd := sc_psum_step.nd
  have tk : TkO (cxO P w K mg base N_psum_step "sum_step" s_psum_step f cdv A outer s H E) E := L2N.takes_of rfl rfl rfl rfl
  have pn : PnO P w (cxO P w K mg base N_psum_step "sum_step" s_psum_step f cdv A outer s H E) := passes_of rfl
  unfold m_psum_step
  exact mss_cons (ms_set (i := 5) nd rfl (.inl v_psum_step_5) (me_add (me_ixV (i := 1) rfl (.inl v_psum_step_1) (me_var (i := 2) rfl (.inl v_psum_step_2))) (me_ixV (i := 1) rfl (.inl v_psum_step_1) (me_var (i := 3) rfl (.inl v_psum_step_3))))) (mss_cons (ms_if (mt_cmp (op_eqM hr.units) os_eq (me_var (i := 0) rfl (.inl v_psum_step_0)) (me_str) (nomark _)) (mss_one (ms_augAdd (i := 5) nd rfl (.inl v_psum_step_5) (me_var (i := 4) rfl (.inl v_psum_step_4)))) (mss_nil)) (mss_cons (ms_setIx (i := 1) rfl (.inl v_psum_step_1) (me_mod (me_var (i := 5) rfl (.inl v_psum_step_5)) (mf_con c_BYTES (hg := (g_psum_step_BYTES _ _ _)))) (me_var (i := 2) rfl (.inl v_psum_step_2))) (mss_one (ms_ret (me_div (me_var (i := 5) rfl (.inl v_psum_step_5)) (mf_con c_BYTES (hg := (g_psum_step_BYTES _ _ _))))))))

abbrev s_pstep : Stmt := top 37
abbrev N_pstep : List Str := ["tables", "row", "cells", "mark", "word", "one", "other"]
theorem sc_pstep : FnScope N_pstep ["tables", "row", "cells", "mark"] (defScope s_pstep) := ⟨rfl, rfl, rfl, by decide +kernel, rfl, by decide +kernel, by decide +kernel⟩
theorem v_pstep_0 : LV s_pstep "tables" := by decide +kernel
theorem v_pstep_1 : LV s_pstep "row" := by decide +kernel
theorem v_pstep_2 : LV s_pstep "cells" := by decide +kernel
theorem v_pstep_3 : LV s_pstep "mark" := by decide +kernel
theorem v_pstep_4 : LV s_pstep "word" := by decide +kernel
theorem v_pstep_5 : LV s_pstep "one" := by decide +kernel
theorem v_pstep_6 : LV s_pstep "other" := by decide +kernel
theorem g_pstep_shift_step : GV "step" s_pstep "shift_step" := fun _ _ _ => rfl
theorem g_pstep_sum_step : GV "step" s_pstep "sum_step" := fun _ _ _ => rfl
theorem ok_pstep (F : Fun K "step" "step" s_pstep f fd) (B : Bn mg) (h_pshift_step : Fd P w K mg base "shift_step" 2 ["word", "cells", "one", "mark"] [1] f_pshift_step) (h_psum_step : Fd P w K mg base "sum_step" 2 ["word", "cells", "one", "other", "mark"] [1] f_psum_step)    :
    FnOk P w K mg base (L2N.CX P w) 4 f fd ["tables", "row", "cells", "mark"] (spF K mg 4 [2] f_pstep) := by
  refine fn_ok F sc_pstep (by decide) (by decide) fun cdv A outer s H E hr => ?_
  have nd := sc_pstep.nd
  have tk : TkO (cxO P w K mg base N_pstep "step" s_pstep f cdv A outer s H E) E := L2N.takes_of rfl rfl rfl rfl
  have pn : PnO P w (cxO P w K mg base N_pstep "step" s_pstep f cdv A outer s H E) := passes_of rfl
  unfold m_pstep
  exact mss_cons (ms_set (i := 4) nd rfl (.inl v_pstep_4) (me_ix (me_var (i := 1) rfl (.inl v_pstep_1)) (me_int))) (mss_cons (ms_if (mt_cmp (op_eqM hr.units) os_eq (me_var (i := 4) rfl (.inl v_pstep_4)) (me_str) (nomark _)) (mss_one (ms_ret (me_ix (me_var (i := 1) rfl (.inl v_pstep_1)) (me_int)))) (mss_nil)) (mss_cons (ms_if (mt_cmp op_inM os_in (me_var (i := 4) rfl (.inl v_pstep_4)) (me_tup (ma_cons (me_str) (ma_cons (me_str) (ma_nil)))) rfl) (mss_one (ms_ret (me_fz (mf_callB h_pshift_step hr (by decide) tk (pb_v (me_var (i := 4) rfl (.inl v_pstep_4)) (pb_b (i := 2) rfl (.inl v_pstep_2) (pb_v (me_ix (me_var (i := 1) rfl (.inl v_pstep_1)) (me_int)) (pb_v (me_var (i := 3) rfl (.inl v_pstep_3)) (pb_nil))))) (bsh_v (bsh_b (bsh_v (bsh_v (bsh_nil))))) (hg := (g_pstep_shift_step _ _ _)))))) (mss_nil)) (mss_cons (ms_asg (me_sl (me_var (i := 1) rfl (.inl v_pstep_1)) (mp_some (me_int)) (mp_none)) (mg_tup rfl (mgs_cons (mg_name (i := 5) nd rfl (.inl v_pstep_5)) (mgs_cons (mg_name (i := 6) nd rfl (.inl v_pstep_6)) (mgs_nil))))) (mss_cons (ms_if (mt_cmp op_inM os_in (me_var (i := 4) rfl (.inl v_pstep_4)) (me_tup (ma_cons (me_str) (ma_cons (me_str) (ma_nil)))) rfl) (mss_one (ms_ret (me_fz (mf_callB h_psum_step hr (by decide) tk (pb_v (me_var (i := 4) rfl (.inl v_pstep_4)) (pb_b (i := 2) rfl (.inl v_pstep_2) (pb_v (me_var (i := 5) rfl (.inl v_pstep_5)) (pb_v (me_var (i := 6) rfl (.inl v_pstep_6)) (pb_v (me_var (i := 3) rfl (.inl v_pstep_3)) (pb_nil)))))) (bsh_v (bsh_b (bsh_v (bsh_v (bsh_v (bsh_nil)))))) (hg := (g_pstep_sum_step _ _ _)))))) (mss_nil)) (mss_cons (ms_if (mt_cmp (op_eqM hr.units) os_eq (me_var (i := 4) rfl (.inl v_pstep_4)) (me_str) (nomark _)) (mss_one (ms_setIx (i := 2) rfl (.inl v_pstep_2) (me_var (i := 6) rfl (.inl v_pstep_6)) (me_var (i := 5) rfl (.inl v_pstep_5)))) (mss_one (ms_if (mt_cmp (op_eqM hr.units) os_eq (me_var (i := 4) rfl (.inl v_pstep_4)) (me_str) (nomark _)) (mss_one (ms_setIx (i := 2) rfl (.inl v_pstep_2) (me_ixV (i := 2) rfl (.inl v_pstep_2) (me_var (i := 6) rfl (.inl v_pstep_6))) (me_var (i := 5) rfl (.inl v_pstep_5)))) (mss_one (ms_if (mt_cmp (op_eqM hr.units) os_eq (me_var (i := 4) rfl (.inl v_pstep_4)) (me_str) (nomark _)) (mss_one (ms_setIx (i := 2) rfl (.inl v_pstep_2) (me_bitand (me_ixV (i := 2) rfl (.inl v_pstep_2) (me_var (i := 5) rfl (.inl v_pstep_5))) (me_ixV (i := 2) rfl (.inl v_pstep_2) (me_var (i := 6) rfl (.inl v_pstep_6)))) (me_var (i := 5) rfl (.inl v_pstep_5)))) (mss_one (ms_if (mt_cmp (op_eqM hr.units) os_eq (me_var (i := 4) rfl (.inl v_pstep_4)) (me_str) (nomark _)) (mss_one (ms_setIx (i := 2) rfl (.inl v_pstep_2) (me_bitor (me_ixV (i := 2) rfl (.inl v_pstep_2) (me_var (i := 5) rfl (.inl v_pstep_5))) (me_ixV (i := 2) rfl (.inl v_pstep_2) (me_var (i := 6) rfl (.inl v_pstep_6)))) (me_var (i := 5) rfl (.inl v_pstep_5)))) (mss_one (ms_setIx (i := 2) rfl (.inl v_pstep_2) (me_ix (me_ix (me_var (i := 0) rfl (.inl v_pstep_0)) (me_var (i := 6) rfl (.inl v_pstep_6))) (me_ixV (i := 2) rfl (.inl v_pstep_2) (me_var (i := 5) rfl (.inl v_pstep_5)))) (me_var (i := 5) rfl (.inl v_pstep_5))))))))))) (mss_one (ms_ret (me_var (i := 3) rfl (.inl v_pstep_3)))))))))

abbrev s_pwork : Stmt := top 38
abbrev N_pwork : List Str := ["program", "cells", "mark", "now", "row"]
theorem sc_pwork : FnScope N_pwork ["program", "cells", "mark"] (defScope s_pwork) := ⟨rfl, rfl, rfl, by decide +kernel, rfl, by decide +kernel, by decide +kernel⟩
theorem v_pwork_0 : LV s_pwork "program" := by decide +kernel
theorem v_pwork_1 : LV s_pwork "cells" := by decide +kernel
theorem v_pwork_2 : LV s_pwork "mark" := by decide +kernel
theorem v_pwork_3 : LV s_pwork "now" := by decide +kernel
theorem v_pwork_4 : LV s_pwork "row" := by decide +kernel
theorem g_pwork_list : GV "work" s_pwork "list" := fun _ _ _ => rfl
theorem g_pwork_step : GV "work" s_pwork "step" := fun _ _ _ => rfl
theorem ok_pwork (F : Fun K "work" "work" s_pwork f fd) (B : Bn mg) (h_pstep : Fd P w K mg base "step" 4 ["tables", "row", "cells", "mark"] [2] f_pstep)    :
    FnOk P w K mg base (L2N.CX P w) 6 f fd ["program", "cells", "mark"] (spF K mg 3 [] f_pwork) := by
  refine fn_ok F sc_pwork (by decide) (by decide) fun cdv A outer s H E hr => ?_
  have nd := sc_pwork.nd
  have tk : TkO (cxO P w K mg base N_pwork "work" s_pwork f cdv A outer s H E) E := L2N.takes_of rfl rfl rfl rfl
  have pn : PnO P w (cxO P w K mg base N_pwork "work" s_pwork f cdv A outer s H E) := passes_of rfl
  unfold m_pwork
  exact mss_cons (ms_setO (i := 3) nd rfl (.inl v_pwork_3) (mbo_list B.list (ma_cons (me_var (i := 1) rfl (.inl v_pwork_1)) (ma_nil)) (hg := (g_pwork_list _ _ _)))) (mss_cons (ms_for pn rfl (mi_val (me_ix (me_var (i := 0) rfl (.inl v_pwork_0)) (me_int))) (mg_name (i := 4) nd rfl (.inl v_pwork_4)) (mss_one (ms_set (i := 2) nd rfl (.inl v_pwork_2) (me_fz (mf_callB h_pstep hr (by decide) tk (pb_v (me_ix (me_var (i := 0) rfl (.inl v_pwork_0)) (me_int)) (pb_v (me_var (i := 4) rfl (.inl v_pwork_4)) (pb_b (i := 3) rfl (.inl v_pwork_3) (pb_v (me_var (i := 2) rfl (.inl v_pwork_2)) (pb_nil))))) (bsh_v (bsh_v (bsh_b (bsh_v (bsh_nil))))) (hg := (g_pwork_step _ _ _))))))) (mss_one (ms_ret (me_tup (ma_cons (me_var (i := 3) rfl (.inl v_pwork_3)) (ma_cons (me_var (i := 2) rfl (.inl v_pwork_2)) (ma_nil)))))))

abbrev s_ppower : Stmt := top 10
abbrev N_ppower : List Str := ["base", "many", "found", "k"]
theorem sc_ppower : FnScope N_ppower ["base", "many"] (defScope s_ppower) := ⟨rfl, rfl, rfl, by decide +kernel, rfl, by decide +kernel, by decide +kernel⟩
theorem v_ppower_0 : LV s_ppower "base" := by decide +kernel
theorem v_ppower_1 : LV s_ppower "many" := by decide +kernel
theorem v_ppower_2 : LV s_ppower "found" := by decide +kernel
theorem v_ppower_3 : LV s_ppower "k" := by decide +kernel
theorem g_ppower_range : GV "power" s_ppower "range" := fun _ _ _ => rfl
theorem ok_ppower (F : Fun K "power" "power" s_ppower f fd) (B : Bn mg)     :
    FnOk P w K mg base (L2N.CX P w) 2 f fd ["base", "many"] (spF K mg 2 [] f_ppower) := by
  refine fn_ok F sc_ppower (by decide) (by decide) fun cdv A outer s H E hr => ?_
  have nd := sc_ppower.nd
  have tk : TkO (cxO P w K mg base N_ppower "power" s_ppower f cdv A outer s H E) E := L2N.takes_of rfl rfl rfl rfl
  have pn : PnO P w (cxO P w K mg base N_ppower "power" s_ppower f cdv A outer s H E) := passes_of rfl
  unfold m_ppower
  exact mss_cons (ms_set (i := 2) nd rfl (.inl v_ppower_2) (me_int)) (mss_cons (ms_for pn rfl (mi_r1 B.range (ma_cons (me_var (i := 1) rfl (.inl v_ppower_1)) (ma_nil)) (hg := (g_ppower_range _ _ _))) (mg_name (i := 3) nd rfl (.inl v_ppower_3)) (mss_one (ms_set (i := 2) nd rfl (.inl v_ppower_2) (me_mul (me_var (i := 2) rfl (.inl v_ppower_2)) (me_var (i := 0) rfl (.inl v_ppower_0)))))) (mss_one (ms_ret (me_var (i := 2) rfl (.inl v_ppower_2)))))

abbrev s_pleast_of : Stmt := top 14
abbrev N_pleast_of : List Str := ["form"]
theorem sc_pleast_of : FnScope N_pleast_of ["form"] (defScope s_pleast_of) := ⟨rfl, rfl, rfl, by decide +kernel, rfl, by decide +kernel, by decide +kernel⟩
theorem v_pleast_of_0 : LV s_pleast_of "form" := by decide +kernel
theorem g_pleast_of_power : GV "least_of" s_pleast_of "power" := fun _ _ _ => rfl
theorem ok_pleast_of (F : Fun K "least_of" "least_of" s_pleast_of f fd) (B : Bn mg) (h_ppower : Fd P w K mg base "power" 2 ["base", "many"] [] f_ppower)    :
    FnOk P w K mg base (L2N.CX P w) 4 f fd ["form"] (spF K mg 1 [] f_pleast_of) := by
  refine fn_ok F sc_pleast_of (by decide) (by decide) fun cdv A outer s H E hr => ?_
  have nd := sc_pleast_of.nd
  have tk : TkO (cxO P w K mg base N_pleast_of "least_of" s_pleast_of f cdv A outer s H E) E := L2N.takes_of rfl rfl rfl rfl
  have pn : PnO P w (cxO P w K mg base N_pleast_of "least_of" s_pleast_of f cdv A outer s H E) := passes_of rfl
  unfold m_pleast_of
  exact mss_cons (ms_if (mt_cmp (op_eqM hr.units) os_eq (me_ix (me_var (i := 0) rfl (.inl v_pleast_of_0)) (me_int)) (me_str) (nomark _)) (mss_one (ms_ret (me_int))) (mss_nil)) (mss_cons (ms_if (mt_cmp (op_eqM hr.units) os_eq (me_ix (me_var (i := 0) rfl (.inl v_pleast_of_0)) (me_int)) (me_str) (nomark _)) (mss_one (ms_ret (me_sub (me_int) (me_fz (mf_call h_ppower hr (by decide) tk (ma_cons (me_int) (ma_cons (me_ix (me_var (i := 0) rfl (.inl v_pleast_of_0)) (me_int)) (ma_nil))) (lng_cons (lng_cons lng_nil)) (hg := (g_pleast_of_power _ _ _))))))) (mss_nil)) (mss_one (ms_ret (me_mul (me_neg (me_int)) (me_fz (mf_call h_ppower hr (by decide) tk (ma_cons (me_int) (ma_cons (me_sub (me_ix (me_var (i := 0) rfl (.inl v_pleast_of_0)) (me_int)) (me_int)) (ma_nil))) (lng_cons (lng_cons lng_nil)) (hg := (g_pleast_of_power _ _ _))))))))

abbrev s_pfolded : Stmt := top 16
abbrev N_pfolded : List Str := ["form", "number", "whole"]
theorem sc_pfolded : FnScope N_pfolded ["form", "number"] (defScope s_pfolded) := ⟨rfl, rfl, rfl, by decide +kernel, rfl, by decide +kernel, by decide +kernel⟩
theorem v_pfolded_0 : LV s_pfolded "form" := by decide +kernel
theorem v_pfolded_1 : LV s_pfolded "number" := by decide +kernel
theorem v_pfolded_2 : LV s_pfolded "whole" := by decide +kernel
theorem g_pfolded_power : GV "folded" s_pfolded "power" := fun _ _ _ => rfl
theorem g_pfolded_least_of : GV "folded" s_pfolded "least_of" := fun _ _ _ => rfl
theorem ok_pfolded (F : Fun K "folded" "folded" s_pfolded f fd) (B : Bn mg) (h_ppower : Fd P w K mg base "power" 2 ["base", "many"] [] f_ppower) (h_pleast_of : Fd P w K mg base "least_of" 4 ["form"] [] f_pleast_of)    :
    FnOk P w K mg base (L2N.CX P w) 6 f fd ["form", "number"] (spF K mg 2 [] f_pfolded) := by
  refine fn_ok F sc_pfolded (by decide) (by decide) fun cdv A outer s H E hr => ?_
  have nd := sc_pfolded.nd
  have tk : TkO (cxO P w K mg base N_pfolded "folded" s_pfolded f cdv A outer s H E) E := L2N.takes_of rfl rfl rfl rfl
  have pn : PnO P w (cxO P w K mg base N_pfolded "folded" s_pfolded f cdv A outer s H E) := passes_of rfl
  unfold m_pfolded
  exact mss_cons (ms_set (i := 2) nd rfl (.inl v_pfolded_2) (me_fz (mf_call h_ppower hr (by decide) tk (ma_cons (me_int) (ma_cons (me_ix (me_var (i := 0) rfl (.inl v_pfolded_0)) (me_int)) (ma_nil))) (lng_cons (lng_cons lng_nil)) (hg := (g_pfolded_power _ _ _))))) (mss_cons (ms_if (mt_cmp (op_eqM hr.units) os_eq (me_ix (me_var (i := 0) rfl (.inl v_pfolded_0)) (me_int)) (me_str) (nomark _)) (mss_one (ms_ret (me_mod (me_var (i := 1) rfl (.inl v_pfolded_1)) (me_var (i := 2) rfl (.inl v_pfolded_2))))) (mss_nil)) (mss_cons (ms_if (mt_cmp (op_eqM hr.units) os_eq (me_ix (me_var (i := 0) rfl (.inl v_pfolded_0)) (me_int)) (me_str) (nomark _)) (mss_one (ms_ret (me_add (me_mod (me_sub (me_var (i := 1) rfl (.inl v_pfolded_1)) (me_fz (mf_call h_pleast_of hr (by decide) tk (ma_cons (me_var (i := 0) rfl (.inl v_pfolded_0)) (ma_nil)) (lng_cons lng_nil) (hg := (g_pfolded_least_of _ _ _))))) (me_var (i := 2) rfl (.inl v_pfolded_2))) (me_fz (mf_call h_pleast_of hr (by decide) tk (ma_cons (me_var (i := 0) rfl (.inl v_pfolded_0)) (ma_nil)) (lng_cons lng_nil) (hg := (g_pfolded_least_of _ _ _))))))) (mss_nil)) (mss_cons (ms_if (mt_cmp op_lt os_lt (me_var (i := 1) rfl (.inl v_pfolded_1)) (me_int) (nomark _)) (mss_one (ms_ret (me_neg (me_mod (me_neg (me_var (i := 1) rfl (.inl v_pfolded_1))) (me_var (i := 2) rfl (.inl v_pfolded_2)))))) (mss_nil)) (mss_one (ms_ret (me_mod (me_var (i := 1) rfl (.inl v_pfolded_1)) (me_var (i := 2) rfl (.inl v_pfolded_2))))))))

abbrev s_pfigures_of : Stmt := top 11
abbrev N_pfigures_of : List Str := ["number", "many", "found", "k"]
theorem sc_pfigures_of : FnScope N_pfigures_of ["number", "many"] (defScope s_pfigures_of) := ⟨rfl, rfl, rfl, by decide +kernel, rfl, by decide +kernel, by decide +kernel⟩
theorem v_pfigures_of_0 : LV s_pfigures_of "number" := by decide +kernel
theorem v_pfigures_of_1 : LV s_pfigures_of "many" := by decide +kernel
theorem v_pfigures_of_2 : LV s_pfigures_of "found" := by decide +kernel
theorem v_pfigures_of_3 : LV s_pfigures_of "k" := by decide +kernel
theorem g_pfigures_of_range : GV "figures_of" s_pfigures_of "range" := fun _ _ _ => rfl
theorem ok_pfigures_of (F : Fun K "figures_of" "figures_of" s_pfigures_of f fd) (B : Bn mg)     :
    FnOk P w K mg base (L2N.CX P w) 2 f fd ["number", "many"] (spF K mg 2 [] f_pfigures_of) := by
  refine fn_ok F sc_pfigures_of (by decide) (by decide) fun cdv A outer s H E hr => ?_
  have nd := sc_pfigures_of.nd
  have tk : TkO (cxO P w K mg base N_pfigures_of "figures_of" s_pfigures_of f cdv A outer s H E) E := L2N.takes_of rfl rfl rfl rfl
  have pn : PnO P w (cxO P w K mg base N_pfigures_of "figures_of" s_pfigures_of f cdv A outer s H E) := passes_of rfl
  unfold m_pfigures_of
  exact mss_cons (ms_setO (i := 2) nd rfl (.inl v_pfigures_of_2) (mo_lst (ma_nil))) (mss_cons (ms_for pn rfl (mi_r1 B.range (ma_cons (me_var (i := 1) rfl (.inl v_pfigures_of_1)) (ma_nil)) (hg := (g_pfigures_of_range _ _ _))) (mg_name (i := 3) nd rfl (.inl v_pfigures_of_3)) (mss_cons (ms_expr (me_lm1 ls_append PySem.F.slot_list_append PySem.F.type_list_append mt_append (i := 2) rfl (.inl v_pfigures_of_2) (ma_cons (me_mod (me_var (i := 0) rfl (.inl v_pfigures_of_0)) (me_int)) (ma_nil)))) (mss_one (ms_set (i := 0) nd rfl (.inl v_pfigures_of_0) (me_div (me_var (i := 0) rfl (.inl v_pfigures_of_0)) (me_int)))))) (mss_one (ms_ret (me_revA (me_var (i := 2) rfl (.inl v_pfigures_of_2))))))

abbrev s_psign_half : Stmt := top 22
abbrev N_psign_half : List Str := ["number"]
theorem sc_psign_half : FnScope N_psign_half ["number"] (defScope s_psign_half) := ⟨rfl, rfl, rfl, by decide +kernel, rfl, by decide +kernel, by decide +kernel⟩
theorem v_psign_half_0 : LV s_psign_half "number" := by decide +kernel
theorem g_psign_half_MINUS_HALF : GV "sign_half" s_psign_half "MINUS_HALF" := fun _ _ _ => rfl
theorem g_psign_half_PLUS_HALF : GV "sign_half" s_psign_half "PLUS_HALF" := fun _ _ _ => rfl
theorem ok_psign_half (F : Fun K "sign_half" "sign_half" s_psign_half f fd) (B : Bn mg)    (c_MINUS_HALF : Cst K mg "MINUS_HALF" (.int 13)) (c_PLUS_HALF : Cst K mg "PLUS_HALF" (.int 12)) :
    FnOk P w K mg base (L2N.CX P w) 2 f fd ["number"] (spF K mg 1 [] f_psign_half) := by
  refine fn_ok F sc_psign_half (by decide) (by decide) fun cdv A outer s H E hr => ?_
  have nd := sc_psign_half.nd
  have tk : TkO (cxO P w K mg base N_psign_half "sign_half" s_psign_half f cdv A outer s H E) E := L2N.takes_of rfl rfl rfl rfl
  have pn : PnO P w (cxO P w K mg base N_psign_half "sign_half" s_psign_half f cdv A outer s H E) := passes_of rfl
  unfold m_psign_half
  exact mss_cons (ms_if (mt_cmp op_lt os_lt (me_var (i := 0) rfl (.inl v_psign_half_0)) (me_int) (nomark _)) (mss_one (ms_ret (mf_con c_MINUS_HALF (hg := (g_psign_half_MINUS_HALF _ _ _))))) (mss_nil)) (mss_one (ms_ret (mf_con c_PLUS_HALF (hg := (g_psign_half_PLUS_HALF _ _ _)))))

abbrev s_phalves_of : Stmt := top 8
abbrev N_phalves_of : List Str := ["form", "many"]
theorem sc_phalves_of : FnScope N_phalves_of ["form"] (defScope s_phalves_of) := ⟨rfl, rfl, rfl, by decide +kernel, rfl, by decide +kernel, by decide +kernel⟩
theorem v_phalves_of_0 : LV s_phalves_of "form" := by decide +kernel
theorem v_phalves_of_1 : LV s_phalves_of "many" := by decide +kernel
theorem g_phalves_of_int : GV "halves_of" s_phalves_of "int" := fun _ _ _ => rfl
theorem ok_phalves_of (F : Fun K "halves_of" "halves_of" s_phalves_of f fd) (B : Bn mg)     :
    FnOk P w K mg base (L2N.CX P w) 2 f fd ["form"] (spF K mg 1 [] f_phalves_of) := by
  refine fn_ok F sc_phalves_of (by decide) (by decide) fun cdv A outer s H E hr => ?_
  have nd := sc_phalves_of.nd
  have tk : TkO (cxO P w K mg base N_phalves_of "halves_of" s_phalves_of f cdv A outer s H E) E := L2N.takes_of rfl rfl rfl rfl
  have pn : PnO P w (cxO P w K mg base N_phalves_of "halves_of" s_phalves_of f cdv A outer s H E) := passes_of rfl
  unfold m_phalves_of
  exact mss_cons (ms_set (i := 1) nd rfl (.inl v_phalves_of_1) (me_add (me_ix (me_var (i := 0) rfl (.inl v_phalves_of_0)) (me_int)) (mb_int B.int (ma_cons (me_cmp (op_eqM hr.units) os_eq (me_ix (me_var (i := 0) rfl (.inl v_phalves_of_0)) (me_int)) (me_str) (nomark _)) (ma_nil)) (hg := (g_phalves_of_int _ _ _))))) (mss_one (ms_ret (me_tup (ma_cons (me_add (me_var (i := 1) rfl (.inl v_phalves_of_1)) (me_mod (me_var (i := 1) rfl (.inl v_phalves_of_1)) (me_int))) (ma_cons (me_mod (me_var (i := 1) rfl (.inl v_phalves_of_1)) (me_int)) (ma_nil))))))

abbrev s_pkept_halves : Stmt := top 23
abbrev N_pkept_halves : List Str := ["form", "number", "figures", "found", "figure", "last"]
theorem sc_pkept_halves : FnScope N_pkept_halves ["form", "number"] (defScope s_pkept_halves) := ⟨rfl, rfl, rfl, by decide +kernel, rfl, by decide +kernel, by decide +kernel⟩
theorem v_pkept_halves_0 : LV s_pkept_halves "form" := by decide +kernel
theorem v_pkept_halves_1 : LV s_pkept_halves "number" := by decide +kernel
theorem v_pkept_halves_2 : LV s_pkept_halves "figures" := by decide +kernel
theorem v_pkept_halves_3 : LV s_pkept_halves "found" := by decide +kernel
theorem v_pkept_halves_4 : LV s_pkept_halves "figure" := by decide +kernel
theorem v_pkept_halves_5 : LV s_pkept_halves "last" := by decide +kernel
theorem g_pkept_halves_power : GV "kept_halves" s_pkept_halves "power" := fun _ _ _ => rfl
theorem g_pkept_halves_abs : GV "kept_halves" s_pkept_halves "abs" := fun _ _ _ => rfl
theorem g_pkept_halves_figures_of : GV "kept_halves" s_pkept_halves "figures_of" := fun _ _ _ => rfl
theorem g_pkept_halves_sign_half : GV "kept_halves" s_pkept_halves "sign_half" := fun _ _ _ => rfl
theorem g_pkept_halves_int : GV "kept_halves" s_pkept_halves "int" := fun _ _ _ => rfl
theorem g_pkept_halves_halves_of : GV "kept_halves" s_pkept_halves "halves_of" := fun _ _ _ => rfl
theorem g_pkept_halves_ZONE_HALF : GV "kept_halves" s_pkept_halves "ZONE_HALF" := fun _ _ _ => rfl
theorem ok_pkept_halves (F : Fun K "kept_halves" "kept_halves" s_pkept_halves f fd) (B : Bn mg) (h_ppower : Fd P w K mg base "power" 2 ["base", "many"] [] f_ppower) (h_pfigures_of : Fd P w K mg base "figures_of" 2 ["number", "many"] [] f_pfigures_of) (h_psign_half : Fd P w K mg base "sign_half" 2 ["number"] [] f_psign_half) (h_phalves_of : Fd P w K mg base "halves_of" 2 ["form"] [] f_phalves_of)   (c_ZONE_HALF : Cst K mg "ZONE_HALF" (.int 15)) :
    FnOk P w K mg base (L2N.CX P w) 4 f fd ["form", "number"] (spF K mg 2 [] f_pkept_halves) := by
  refine fn_ok F sc_pkept_halves (by decide) (by decide) fun cdv A outer s H E hr => ?_
  have nd := sc_pkept_halves.nd
  have tk : TkO (cxO P w K mg base N_pkept_halves "kept_halves" s_pkept_halves f cdv A outer s H E) E := L2N.takes_of rfl rfl rfl rfl
  have pn : PnO P w (cxO P w K mg base N_pkept_halves "kept_halves" s_pkept_halves f cdv A outer s H E) := passes_of rfl
  unfold m_pkept_halves
  exact mss_cons (ms_if (mt_cmp (op_eqM hr.units) os_eq (me_ix (me_var (i := 0) rfl (.inl v_pkept_halves_0)) (me_int)) (me_str) (nomark _)) (mss_one (ms_set (i := 1) nd rfl (.inl v_pkept_halves_1) (me_mod (me_var (i := 1) rfl (.inl v_pkept_halves_1)) (me_fz (mf_call h_ppower hr (by decide) tk (ma_cons (me_int) (ma_cons (me_ix (me_var (i := 0) rfl (.inl v_pkept_halves_0)) (me_int)) (ma_nil))) (lng_cons (lng_cons lng_nil)) (hg := (g_pkept_halves_power _ _ _))))))) (mss_nil)) (mss_cons (ms_set (i := 2) nd rfl (.inl v_pkept_halves_2) (me_fz (mf_call h_pfigures_of hr (by decide) tk (ma_cons (mb_abs B.abs (ma_cons (me_var (i := 1) rfl (.inl v_pkept_halves_1)) (ma_nil)) (hg := (g_pkept_halves_abs _ _ _))) (ma_cons (me_ix (me_var (i := 0) rfl (.inl v_pkept_halves_0)) (me_int)) (ma_nil))) (lng_cons (lng_cons lng_nil)) (hg := (g_pkept_halves_figures_of _ _ _))))) (mss_cons (ms_if (mt_cmp (op_eqM hr.units) os_eq (me_ix (me_var (i := 0) rfl (.inl v_pkept_halves_0)) (me_int)) (me_str) (nomark _)) (mss_cons (ms_set (i := 5) nd rfl (.inl v_pkept_halves_5) (me_mul (me_lst (ma_cons (me_fz (mf_call h_psign_half hr (by decide) tk (ma_cons (me_var (i := 1) rfl (.inl v_pkept_halves_1)) (ma_nil)) (lng_cons lng_nil) (hg := (g_pkept_halves_sign_half _ _ _)))) (ma_nil))) (mb_int B.int (ma_cons (me_cmp (op_eqM hr.units) os_eq (me_ix (me_var (i := 0) rfl (.inl v_pkept_halves_0)) (me_int)) (me_str) (nomark _)) (ma_nil)) (hg := (g_pkept_halves_int _ _ _))))) (mss_one (ms_ret (me_add (me_add (me_mul (me_lst (ma_cons (me_int) (ma_nil))) (me_ix (me_fz (mf_call h_phalves_of hr (by decide) tk (ma_cons (me_var (i := 0) rfl (.inl v_pkept_halves_0)) (ma_nil)) (lng_cons lng_nil) (hg := (g_pkept_halves_halves_of _ _ _)))) (me_int))) (me_var (i := 2) rfl (.inl v_pkept_halves_2))) (me_var (i := 5) rfl (.inl v_pkept_halves_5)))))) (mss_nil)) (mss_cons (ms_setO (i := 3) nd rfl (.inl v_pkept_halves_3) (mo_lst (ma_nil))) (mss_cons (ms_for pn rfl (mi_val (me_var (i := 2) rfl (.inl v_pkept_halves_2))) (mg_name (i := 4) nd rfl (.inl v_pkept_halves_4)) (mss_one (ms_expr (me_lm1 ls_extend PySem.F.slot_list_extend PySem.F.type_list_extend mt_extend (i := 3) rfl (.inl v_pkept_halves_3) (ma_cons (me_lst (ma_cons (mf_con c_ZONE_HALF (hg := (g_pkept_halves_ZONE_HALF _ _ _))) (ma_cons (me_var (i := 4) rfl (.inl v_pkept_halves_4)) (ma_nil)))) (ma_nil)))))) (mss_cons (ms_if (mt_cmp (op_eqM hr.units) os_eq (me_ix (me_var (i := 0) rfl (.inl v_pkept_halves_0)) (me_int)) (me_str) (nomark _)) (mss_one (ms_setIx (i := 3) rfl (.inl v_pkept_halves_3) (me_fz (mf_call h_psign_half hr (by decide) tk (ma_cons (me_var (i := 1) rfl (.inl v_pkept_halves_1)) (ma_nil)) (lng_cons lng_nil) (hg := (g_pkept_halves_sign_half _ _ _)))) (me_neg (me_int)))) (mss_nil)) (mss_one (ms_retO (mo_var (i := 3) rfl (.inl v_pkept_halves_3)))))))))

abbrev s_pmost_of : Stmt := top 15
abbrev N_pmost_of : List Str := ["form"]
theorem sc_pmost_of : FnScope N_pmost_of ["form"] (defScope s_pmost_of) := ⟨rfl, rfl, rfl, by decide +kernel, rfl, by decide +kernel, by decide +kernel⟩
theorem v_pmost_of_0 : LV s_pmost_of "form" := by decide +kernel
theorem g_pmost_of_power : GV "most_of" s_pmost_of "power" := fun _ _ _ => rfl
theorem ok_pmost_of (F : Fun K "most_of" "most_of" s_pmost_of f fd) (B : Bn mg) (h_ppower : Fd P w K mg base "power" 2 ["base", "many"] [] f_ppower)    :
    FnOk P w K mg base (L2N.CX P w) 4 f fd ["form"] (spF K mg 1 [] f_pmost_of) := by
  refine fn_ok F sc_pmost_of (by decide) (by decide) fun cdv A outer s H E hr => ?_
  have nd := sc_pmost_of.nd
  have tk : TkO (cxO P w K mg base N_pmost_of "most_of" s_pmost_of f cdv A outer s H E) E := L2N.takes_of rfl rfl rfl rfl
  have pn : PnO P w (cxO P w K mg base N_pmost_of "most_of" s_pmost_of f cdv A outer s H E) := passes_of rfl
  unfold m_pmost_of
  exact mss_cons (ms_if (mt_cmp (op_eqM hr.units) os_eq (me_ix (me_var (i := 0) rfl (.inl v_pmost_of_0)) (me_int)) (me_str) (nomark _)) (mss_one (ms_ret (me_sub (me_mul (me_int) (me_fz (mf_call h_ppower hr (by decide) tk (ma_cons (me_int) (ma_cons (me_sub (me_ix (me_var (i := 0) rfl (.inl v_pmost_of_0)) (me_int)) (me_int)) (ma_nil))) (lng_cons (lng_cons lng_nil)) (hg := (g_pmost_of_power _ _ _))))) (me_int)))) (mss_nil)) (mss_one (ms_ret (me_sub (me_fz (mf_call h_ppower hr (by decide) tk (ma_cons (me_int) (ma_cons (me_ix (me_var (i := 0) rfl (.inl v_pmost_of_0)) (me_int)) (ma_nil))) (lng_cons (lng_cons lng_nil)) (hg := (g_pmost_of_power _ _ _)))) (me_int))))

abbrev s_pfits : Stmt := top 17
abbrev N_pfits : List Str := ["form", "number"]
theorem sc_pfits : FnScope N_pfits ["form", "number"] (defScope s_pfits) := ⟨rfl, rfl, rfl, by decide +kernel, rfl, by decide +kernel, by decide +kernel⟩
theorem v_pfits_0 : LV s_pfits "form" := by decide +kernel
theorem v_pfits_1 : LV s_pfits "number" := by decide +kernel
theorem g_pfits_least_of : GV "fits" s_pfits "least_of" := fun _ _ _ => rfl
theorem g_pfits_most_of : GV "fits" s_pfits "most_of" := fun _ _ _ => rfl
theorem ok_pfits (F : Fun K "fits" "fits" s_pfits f fd) (B : Bn mg) (h_pleast_of : Fd P w K mg base "least_of" 4 ["form"] [] f_pleast_of) (h_pmost_of : Fd P w K mg base "most_of" 4 ["form"] [] f_pmost_of)    :
    FnOk P w K mg base (L2N.CX P w) 6 f fd ["form", "number"] (spF K mg 2 [] f_pfits) := by
  refine fn_ok F sc_pfits (by decide) (by decide) fun cdv A outer s H E hr => ?_
  have nd := sc_pfits.nd
  have tk : TkO (cxO P w K mg base N_pfits "fits" s_pfits f cdv A outer s H E) E := L2N.takes_of rfl rfl rfl rfl
  have pn : PnO P w (cxO P w K mg base N_pfits "fits" s_pfits f cdv A outer s H E) := passes_of rfl
  unfold m_pfits
  exact mss_one (ms_ret (me_chain op_le os_le op_le os_le (me_fz (mf_call h_pleast_of hr (by decide) tk (ma_cons (me_var (i := 0) rfl (.inl v_pfits_0)) (ma_nil)) (lng_cons lng_nil) (hg := (g_pfits_least_of _ _ _)))) (me_var (i := 1) rfl (.inl v_pfits_1)) (me_fz (mf_call h_pmost_of hr (by decide) tk (ma_cons (me_var (i := 0) rfl (.inl v_pfits_0)) (ma_nil)) (lng_cons lng_nil) (hg := (g_pfits_most_of _ _ _))))))

abbrev s_pkept : Stmt := top 24
abbrev N_pkept : List Str := ["form", "number", "halves", "k"]
theorem sc_pkept : FnScope N_pkept ["form", "number"] (defScope s_pkept) := ⟨rfl, rfl, rfl, by decide +kernel, rfl, by decide +kernel, by decide +kernel⟩
theorem v_pkept_0 : LV s_pkept "form" := by decide +kernel
theorem v_pkept_1 : LV s_pkept "number" := by decide +kernel
theorem v_pkept_2 : (defScope s_pkept).names.lookup ("halves" : Str) = some NameKind.cell := by decide +kernel
theorem g_pkept_fits : GV "kept" s_pkept "fits" := fun _ _ _ => rfl
theorem g_pkept_NoFit : GV "kept" s_pkept "NoFit" := fun _ _ _ => rfl
theorem g_pkept_kept_halves : GV "kept" s_pkept "kept_halves" := fun _ _ _ => rfl
theorem g_pkept_len : GV "kept" s_pkept "len" := fun _ _ _ => rfl
theorem g_pkept_range : GV "kept" s_pkept "range" := fun _ _ _ => rfl
theorem g_pkept_tuple : GV "kept" s_pkept "tuple" := fun _ _ _ => rfl
theorem ok_pkept (F : Fun K "kept" "kept" s_pkept f fd) (B : Bn mg) (h_pfits : Fd P w K mg base "fits" 6 ["form", "number"] [] f_pfits) (h_pkept_halves : Fd P w K mg base "kept_halves" 4 ["form", "number"] [] f_pkept_halves)  (xcl1_NoFit_number : Cl1 P w K mg base "NoFit" "number")  :
    FnOk P w K mg base (L2N.CX P w) 8 f fd ["form", "number"] (spF K mg 2 [] f_pkept) := by
  refine fn_ok F sc_pkept (by decide) (by decide) fun cdv A outer s H E hr => ?_
  have nd := sc_pkept.nd
  have tk : TkO (cxO P w K mg base N_pkept "kept" s_pkept f cdv A outer s H E) E := L2N.takes_of rfl rfl rfl rfl
  have pn : PnO P w (cxO P w K mg base N_pkept "kept" s_pkept f cdv A outer s H E) := passes_of rfl
  unfold m_pkept
  exact mss_cons (ms_if (mt_not (mt_val (me_fz (mf_call h_pfits hr (by decide) tk (ma_cons (me_var (i := 0) rfl (.inl v_pkept_0)) (ma_cons (me_var (i := 1) rfl (.inl v_pkept_1)) (ma_nil))) (lng_cons (lng_cons lng_nil)) (hg := (g_pkept_fits _ _ _)))))) (mss_one (ms_raise1 xcl1_NoFit_number rfl hr (by decide) tk (g_pkept_NoFit _ _ _) (me_var (i := 1) rfl (.inl v_pkept_1)))) (mss_nil)) (mss_cons (ms_set (i := 2) nd rfl (.inr v_pkept_2) (me_fz (mf_call h_pkept_halves hr (by decide) tk (ma_cons (me_var (i := 0) rfl (.inl v_pkept_0)) (ma_cons (me_var (i := 1) rfl (.inl v_pkept_1)) (ma_nil))) (lng_cons (lng_cons lng_nil)) (hg := (g_pkept_kept_halves _ _ _))))) (mss_one (ms_ret (mb_tuple B.tuple (ma_cons (me_fz (mo_lc (own := [("k", 3)]) (g := .nm 3) rfl nd (mi_r3 B.range (ma_cons (me_int) (ma_cons (mb_len B.len (ma_cons (me_var (i := 2) rfl (.inr (.inl v_pkept_2))) (ma_nil)) (hg := (g_pkept_len _ _ _))) (ma_cons (me_int) (ma_nil)))) (hg := (g_pkept_range _ _ _))) (blkOk_at (N' := ["form", "number", "halves", "k"]) (sc' := defScope s_pkept) rfl rfl (by decide +kernel)) (fun _ _ _ _ _ => pg_name (i := 3) nd rfl (Or.inl rfl)) (fun _ _ _ _ _ => mts_nil) (fun _ _ _ _ _ => me_add (me_mul (me_int) (me_ix (me_var (i := 2) rfl (by first | exact .inr (.inr rfl) | exact .inl rfl | exact .inr (.inl rfl))) (me_var (i := 3) rfl (.inl rfl)))) (me_ix (me_var (i := 2) rfl (by first | exact .inr (.inr rfl) | exact .inl rfl | exact .inr (.inl rfl))) (me_add (me_var (i := 3) rfl (.inl rfl)) (me_int)))) (hbs := hbs_of rfl))) (ma_nil)) (hg := (g_pkept_tuple _ _ _))))))

abbrev s_pdue_of : Stmt := top 42
abbrev N_pdue_of : List Str := ["deed", "form", "one", "other", "number", "found"]
theorem sc_pdue_of : FnScope N_pdue_of ["deed", "form", "one", "other"] (defScope s_pdue_of) := ⟨rfl, rfl, rfl, by decide +kernel, rfl, by decide +kernel, by decide +kernel⟩
theorem v_pdue_of_0 : LV s_pdue_of "deed" := by decide +kernel
theorem v_pdue_of_1 : LV s_pdue_of "form" := by decide +kernel
theorem v_pdue_of_2 : LV s_pdue_of "one" := by decide +kernel
theorem v_pdue_of_3 : LV s_pdue_of "other" := by decide +kernel
theorem v_pdue_of_4 : LV s_pdue_of "number" := by decide +kernel
theorem v_pdue_of_5 : LV s_pdue_of "found" := by decide +kernel
theorem g_pdue_of_int : GV "due_of" s_pdue_of "int" := fun _ _ _ => rfl
theorem g_pdue_of_folded : GV "due_of" s_pdue_of "folded" := fun _ _ _ => rfl
theorem g_pdue_of_kept : GV "due_of" s_pdue_of "kept" := fun _ _ _ => rfl
theorem ok_pdue_of (F : Fun K "due_of" "due_of" s_pdue_of f fd) (B : Bn mg) (h_pfolded : Fd P w K mg base "folded" 6 ["form", "number"] [] f_pfolded) (h_pkept : Fd P w K mg base "kept" 8 ["form", "number"] [] f_pkept)    :
    FnOk P w K mg base (L2N.CX P w) 10 f fd ["deed", "form", "one", "other"] (spF K mg 4 [] f_pdue_of) := by
  refine fn_ok F sc_pdue_of (by decide) (by decide) fun cdv A outer s H E hr => ?_
  have nd := sc_pdue_of.nd
  have tk : TkO (cxO P w K mg base N_pdue_of "due_of" s_pdue_of f cdv A outer s H E) E := L2N.takes_of rfl rfl rfl rfl
  have pn : PnO P w (cxO P w K mg base N_pdue_of "due_of" s_pdue_of f cdv A outer s H E) := passes_of rfl
  unfold m_pdue_of
  exact mss_cons (ms_if (mt_cmp (op_eqM hr.units) os_eq (me_var (i := 0) rfl (.inl v_pdue_of_0)) (me_str) (nomark _)) (mss_one (ms_ret (me_tup (ma_cons (me_tup (ma_cons (me_add (mb_int B.int (ma_cons (me_cmp op_ge os_ge (me_var (i := 2) rfl (.inl v_pdue_of_2)) (me_var (i := 3) rfl (.inl v_pdue_of_3)) (nomark _)) (ma_nil)) (hg := (g_pdue_of_int _ _ _))) (mb_int B.int (ma_cons (me_cmp op_gt os_gt (me_var (i := 2) rfl (.inl v_pdue_of_2)) (me_var (i := 3) rfl (.inl v_pdue_of_3)) (nomark _)) (ma_nil)) (hg := (g_pdue_of_int _ _ _)))) (ma_nil))) (ma_cons (me_int) (ma_nil)))))) (mss_nil)) (mss_cons (ms_set (i := 4) nd rfl (.inl v_pdue_of_4) (me_add (me_var (i := 2) rfl (.inl v_pdue_of_2)) (me_var (i := 3) rfl (.inl v_pdue_of_3)))) (mss_cons (ms_if (mt_cmp (op_eqM hr.units) os_eq (me_var (i := 0) rfl (.inl v_pdue_of_0)) (me_str) (nomark _)) (mss_one (ms_set (i := 4) nd rfl (.inl v_pdue_of_4) (me_sub (me_var (i := 2) rfl (.inl v_pdue_of_2)) (me_var (i := 3) rfl (.inl v_pdue_of_3))))) (mss_nil)) (mss_cons (ms_set (i := 5) nd rfl (.inl v_pdue_of_5) (me_fz (mf_call h_pfolded hr (by decide) tk (ma_cons (me_var (i := 1) rfl (.inl v_pdue_of_1)) (ma_cons (me_var (i := 4) rfl (.inl v_pdue_of_4)) (ma_nil))) (lng_cons (lng_cons lng_nil)) (hg := (g_pdue_of_folded _ _ _))))) (mss_one (ms_ret (me_tup (ma_cons (me_fz (mf_call h_pkept hr (by decide) tk (ma_cons (me_var (i := 1) rfl (.inl v_pdue_of_1)) (ma_cons (me_var (i := 5) rfl (.inl v_pdue_of_5)) (ma_nil))) (lng_cons (lng_cons lng_nil)) (hg := (g_pdue_of_kept _ _ _)))) (ma_cons (mb_int B.int (ma_cons (me_cmp (op_neM hr.units) os_ne (me_var (i := 5) rfl (.inl v_pdue_of_5)) (me_var (i := 4) rfl (.inl v_pdue_of_4)) (nomark _)) (ma_nil)) (hg := (g_pdue_of_int _ _ _))) (ma_nil)))))))))

abbrev s_pdoes_pair : Stmt := top 43
abbrev N_pdoes_pair : List Str := ["deed", "form", "program", "one", "other", "front", "cells", "mark", "answer", "due"]
theorem sc_pdoes_pair : FnScope N_pdoes_pair ["deed", "form", "program", "one", "other"] (defScope s_pdoes_pair) := ⟨rfl, rfl, rfl, by decide +kernel, rfl, by decide +kernel, by decide +kernel⟩
theorem v_pdoes_pair_0 : LV s_pdoes_pair "deed" := by decide +kernel
theorem v_pdoes_pair_1 : LV s_pdoes_pair "form" := by decide +kernel
theorem v_pdoes_pair_2 : LV s_pdoes_pair "program" := by decide +kernel
theorem v_pdoes_pair_3 : LV s_pdoes_pair "one" := by decide +kernel
theorem v_pdoes_pair_4 : LV s_pdoes_pair "other" := by decide +kernel
theorem v_pdoes_pair_5 : LV s_pdoes_pair "front" := by decide +kernel
theorem v_pdoes_pair_6 : LV s_pdoes_pair "cells" := by decide +kernel
theorem v_pdoes_pair_7 : LV s_pdoes_pair "mark" := by decide +kernel
theorem v_pdoes_pair_8 : LV s_pdoes_pair "answer" := by decide +kernel
theorem v_pdoes_pair_9 : LV s_pdoes_pair "due" := by decide +kernel
theorem g_pdoes_pair_kept : GV "does_pair" s_pdoes_pair "kept" := fun _ _ _ => rfl
theorem g_pdoes_pair_list : GV "does_pair" s_pdoes_pair "list" := fun _ _ _ => rfl
theorem g_pdoes_pair_ALL_CELLS : GV "does_pair" s_pdoes_pair "ALL_CELLS" := fun _ _ _ => rfl
theorem g_pdoes_pair_len : GV "does_pair" s_pdoes_pair "len" := fun _ _ _ => rfl
theorem g_pdoes_pair_work : GV "does_pair" s_pdoes_pair "work" := fun _ _ _ => rfl
theorem g_pdoes_pair_due_of : GV "does_pair" s_pdoes_pair "due_of" := fun _ _ _ => rfl
theorem g_pdoes_pair_tuple : GV "does_pair" s_pdoes_pair "tuple" := fun _ _ _ => rfl
theorem ok_pdoes_pair (F : Fun K "does_pair" "does_pair" s_pdoes_pair f fd) (B : Bn mg) (h_pkept : Fd P w K mg base "kept" 8 ["form", "number"] [] f_pkept) (h_pwork : Fd P w K mg base "work" 6 ["program", "cells", "mark"] [] f_pwork) (h_pdue_of : Fd P w K mg base "due_of" 10 ["deed", "form", "one", "other"] [] f_pdue_of)   (c_ALL_CELLS : Cst K mg "ALL_CELLS" (.int 256)) :
    FnOk P w K mg base (L2N.CX P w) 12 f fd ["deed", "form", "program", "one", "other"] (spF K mg 5 [] f_pdoes_pair) := by
  refine fn_ok F sc_pdoes_pair (by decide) (by decide) fun cdv A outer s H E hr => ?_
  have nd := sc_pdoes_pair.nd
  have tk : TkO (cxO P w K mg base N_pdoes_pair "does_pair" s_pdoes_pair f cdv A outer s H E) E := L2N.takes_of rfl rfl rfl rfl
  have pn : PnO P w (cxO P w K mg base N_pdoes_pair "does_pair" s_pdoes_pair f cdv A outer s H E) := passes_of rfl
  unfold m_pdoes_pair
  exact mss_cons (ms_set (i := 5) nd rfl (.inl v_pdoes_pair_5) (mb_list B.list (ma_cons (me_add (me_fz (mf_call h_pkept hr (by decide) tk (ma_cons (me_var (i := 1) rfl (.inl v_pdoes_pair_1)) (ma_cons (me_var (i := 3) rfl (.inl v_pdoes_pair_3)) (ma_nil))) (lng_cons (lng_cons lng_nil)) (hg := (g_pdoes_pair_kept _ _ _)))) (me_fz (mf_call h_pkept hr (by decide) tk (ma_cons (me_var (i := 1) rfl (.inl v_pdoes_pair_1)) (ma_cons (me_var (i := 4) rfl (.inl v_pdoes_pair_4)) (ma_nil))) (lng_cons (lng_cons lng_nil)) (hg := (g_pdoes_pair_kept _ _ _))))) (ma_nil)) (hg := (g_pdoes_pair_list _ _ _)))) (mss_cons (ms_asg (me_fz (mf_call h_pwork hr (by decide) tk (ma_cons (me_var (i := 2) rfl (.inl v_pdoes_pair_2)) (ma_cons (me_add (me_var (i := 5) rfl (.inl v_pdoes_pair_5)) (me_mul (me_lst (ma_cons (me_int) (ma_nil))) (me_sub (mf_con c_ALL_CELLS (hg := (g_pdoes_pair_ALL_CELLS _ _ _))) (mb_len B.len (ma_cons (me_var (i := 5) rfl (.inl v_pdoes_pair_5)) (ma_nil)) (hg := (g_pdoes_pair_len _ _ _)))))) (ma_cons (me_int) (ma_nil)))) (lng_cons (lng_cons (lng_cons lng_nil))) (hg := (g_pdoes_pair_work _ _ _)))) (mg_tup rfl (mgs_cons (mg_name (i := 6) nd rfl (.inl v_pdoes_pair_6)) (mgs_cons (mg_name (i := 7) nd rfl (.inl v_pdoes_pair_7)) (mgs_nil))))) (mss_cons (ms_asg (me_fz (mf_call h_pdue_of hr (by decide) tk (ma_cons (me_var (i := 0) rfl (.inl v_pdoes_pair_0)) (ma_cons (me_var (i := 1) rfl (.inl v_pdoes_pair_1)) (ma_cons (me_var (i := 3) rfl (.inl v_pdoes_pair_3)) (ma_cons (me_var (i := 4) rfl (.inl v_pdoes_pair_4)) (ma_nil))))) (lng_cons (lng_cons (lng_cons (lng_cons lng_nil)))) (hg := (g_pdoes_pair_due_of _ _ _)))) (mg_tup rfl (mgs_cons (mg_name (i := 8) nd rfl (.inl v_pdoes_pair_8)) (mgs_cons (mg_name (i := 9) nd rfl (.inl v_pdoes_pair_9)) (mgs_nil))))) (mss_one (ms_ret (me_and (me_cmp (op_eqM hr.units) os_eq (mb_tuple B.tuple (ma_cons (me_sl (me_var (i := 6) rfl (.inl v_pdoes_pair_6)) (mp_none) (mp_some (mb_len B.len (ma_cons (me_var (i := 8) rfl (.inl v_pdoes_pair_8)) (ma_nil)) (hg := (g_pdoes_pair_len _ _ _))))) (ma_nil)) (hg := (g_pdoes_pair_tuple _ _ _))) (me_var (i := 8) rfl (.inl v_pdoes_pair_8)) (nomark _)) (me_one (me_cmp (op_eqM hr.units) os_eq (me_var (i := 7) rfl (.inl v_pdoes_pair_7)) (me_var (i := 9) rfl (.inl v_pdoes_pair_9)) (nomark _))))))))

abbrev s_pdoes : Stmt := top 44
abbrev N_pdoes : List Str := ["deed", "kind", "program", "form", "one", "other"]
theorem sc_pdoes : FnScope N_pdoes ["deed", "kind", "program"] (defScope s_pdoes) := ⟨rfl, rfl, rfl, by decide +kernel, rfl, by decide +kernel, by decide +kernel⟩
theorem v_pdoes_0 : (defScope s_pdoes).names.lookup ("deed" : Str) = some NameKind.cell := by decide +kernel
theorem v_pdoes_1 : LV s_pdoes "kind" := by decide +kernel
theorem v_pdoes_2 : (defScope s_pdoes).names.lookup ("program" : Str) = some NameKind.cell := by decide +kernel
theorem v_pdoes_3 : (defScope s_pdoes).names.lookup ("form" : Str) = some NameKind.cell := by decide +kernel
theorem v_pdoes_4 : (defScope s_pdoes).names.lookup ("one" : Str) = some NameKind.cell := by decide +kernel
theorem g_pdoes_DEEDS : GV "does" s_pdoes "DEEDS" := fun _ _ _ => rfl
theorem g_pdoes_NoDeed : GV "does" s_pdoes "NoDeed" := fun _ _ _ => rfl
theorem g_pdoes_KINDS : GV "does" s_pdoes "KINDS" := fun _ _ _ => rfl
theorem g_pdoes_NoShape : GV "does" s_pdoes "NoShape" := fun _ _ _ => rfl
theorem g_pdoes_ALL_CELLS : GV "does" s_pdoes "ALL_CELLS" := fun _ _ _ => rfl
theorem g_pdoes_hold_program : GV "does" s_pdoes "hold_program" := fun _ _ _ => rfl
theorem g_pdoes_range : GV "does" s_pdoes "range" := fun _ _ _ => rfl
theorem g_pdoes_all : GV "does" s_pdoes "all" := fun _ _ _ => rfl
theorem ok_pdoes (F : Fun K "does" "does" s_pdoes f fd) (B : Bn mg) (h_phold_program : Fd P w K mg base "hold_program" 6 ["program", "cells"] [] f_phold_program) (h_pdoes_pair : Fd P w K mg base "does_pair" 12 ["deed", "form", "program", "one", "other"] [] f_pdoes_pair)  (xcl1_NoDeed_deed : Cl1 P w K mg base "NoDeed" "deed") (xcl1_NoShape_part : Cl1 P w K mg base "NoShape" "part") (c_DEEDS : Cst K mg "DEEDS" (.tup [(.str "sum"), (.str "difference"), (.str "compare")])) (c_KINDS : Cst K mg "KINDS" (.tup [(.str "packed"), (.str "spread")])) (c_ALL_CELLS : Cst K mg "ALL_CELLS" (.int 256)) :
    FnOk P w K mg base (L2N.CX P w) 14 f fd ["deed", "kind", "program"] (spF K mg 3 [] f_pdoes) := by
  refine fn_ok F sc_pdoes (by decide) (by decide) fun cdv A outer s H E hr => ?_
  have nd := sc_pdoes.nd
  have tk : TkO (cxO P w K mg base N_pdoes "does" s_pdoes f cdv A outer s H E) E := L2N.takes_of rfl rfl rfl rfl
  have pn : PnO P w (cxO P w K mg base N_pdoes "does" s_pdoes f cdv A outer s H E) := passes_of rfl
  unfold m_pdoes
  exact mss_cons (ms_if (mt_cmp op_notInM os_notIn (me_var (i := 0) rfl (.inr (.inl v_pdoes_0))) (mf_con c_DEEDS (hg := (g_pdoes_DEEDS _ _ _))) rfl) (mss_one (ms_raise1 xcl1_NoDeed_deed rfl hr (by decide) tk (g_pdoes_NoDeed _ _ _) (me_var (i := 0) rfl (.inr (.inl v_pdoes_0))))) (mss_nil)) (mss_cons (ms_if (mt_cmp op_notInM os_notIn (me_var (i := 1) rfl (.inl v_pdoes_1)) (mf_con c_KINDS (hg := (g_pdoes_KINDS _ _ _))) rfl) (mss_one (ms_raise1 xcl1_NoShape_part rfl hr (by decide) tk (g_pdoes_NoShape _ _ _) (me_str))) (mss_nil)) (mss_cons (ms_expr (me_fz (mf_call h_phold_program hr (by decide) tk (ma_cons (me_var (i := 2) rfl (.inr (.inl v_pdoes_2))) (ma_cons (mf_con c_ALL_CELLS (hg := (g_pdoes_ALL_CELLS _ _ _))) (ma_nil))) (lng_cons (lng_cons lng_nil)) (hg := (g_pdoes_hold_program _ _ _))))) (mss_cons (ms_set (i := 3) nd rfl (.inr v_pdoes_3) (me_tup (ma_cons (me_var (i := 1) rfl (.inl v_pdoes_1)) (ma_cons (me_int) (ma_cons (me_str) (ma_cons (me_int) (ma_nil))))))) (mss_cons (ms_for pn rfl (mi_r1 B.range (ma_cons (me_int) (ma_nil)) (hg := (g_pdoes_range _ _ _))) (mg_name (i := 4) nd rfl (.inr v_pdoes_4)) (mss_one (ms_if (mt_not (mt_val (mb_all rfl B.all (ma_cons (me_fz (mo_lc (own := [("other", 5)]) (g := .nm 5) rfl nd (mi_r1 B.range (ma_cons (me_int) (ma_nil)) (hg := (g_pdoes_range _ _ _))) (blkOk_at (N' := ["deed", "kind", "program", "form", "one", "other"]) (sc' := defScope s_pdoes) rfl rfl (by decide +kernel)) (fun _ _ _ _ _ => pg_name (i := 5) nd rfl (Or.inl rfl)) (fun _ _ _ _ _ => mts_nil) (fun _ _ _ _ _ => me_fz (mf_call0 h_pdoes_pair hr (by decide) (ma_cons (me_var (i := 0) rfl (by first | exact .inr (.inr rfl) | exact .inl rfl | exact .inr (.inl rfl))) (ma_cons (me_var (i := 3) rfl (by first | exact .inr (.inr rfl) | exact .inl rfl | exact .inr (.inl rfl))) (ma_cons (me_var (i := 2) rfl (by first | exact .inr (.inr rfl) | exact .inl rfl | exact .inr (.inl rfl))) (ma_cons (me_var (i := 4) rfl (by first | exact .inr (.inr rfl) | exact .inl rfl | exact .inr (.inl rfl))) (ma_cons (me_var (i := 5) rfl (.inl rfl)) (ma_nil)))))) (lng_cons (lng_cons (lng_cons (lng_cons (lng_cons lng_nil))))) (hg := rfl))) (hbs := hbs_of rfl))) (ma_nil)) (hg := (g_pdoes_all _ _ _))))) (mss_one (ms_ret (me_bl))) (mss_nil)))) (mss_one (ms_ret (me_bl)))))))

abbrev s_lsome_row : Stmt := top 50
abbrev N_lsome_row : List Str := ["_law_cell_here", "_law_salt", "_law_cells", "_law_tables", "_law_word", "_law_way", "_law_a", "_law_b", "_law_byte"]
theorem sc_lsome_row : FnScope N_lsome_row ["_law_cell_here", "_law_salt", "_law_cells", "_law_tables"] (defScope s_lsome_row) := ⟨rfl, rfl, rfl, by decide +kernel, rfl, by decide +kernel, by decide +kernel⟩
theorem v_lsome_row_0 : LV s_lsome_row "_law_cell_here" := by decide +kernel
theorem v_lsome_row_1 : LV s_lsome_row "_law_salt" := by decide +kernel
theorem v_lsome_row_2 : LV s_lsome_row "_law_cells" := by decide +kernel
theorem v_lsome_row_3 : LV s_lsome_row "_law_tables" := by decide +kernel
theorem v_lsome_row_4 : LV s_lsome_row "_law_word" := by decide +kernel
theorem v_lsome_row_5 : LV s_lsome_row "_law_way" := by decide +kernel
theorem v_lsome_row_6 : LV s_lsome_row "_law_a" := by decide +kernel
theorem v_lsome_row_7 : LV s_lsome_row "_law_b" := by decide +kernel
theorem v_lsome_row_8 : LV s_lsome_row "_law_byte" := by decide +kernel
theorem g_lsome_row_law_draws : GV "_law_some_row" s_lsome_row "_law_draws" := fun _ _ _ => rfl
theorem ok_lsome_row (F : Fun K "_law_some_row" "_law_some_row" s_lsome_row f fd) (B : Bn mg) (h_ldraws : Fd P w K mg base "_law_draws" 4 ["_law_cell_here", "_law_salt", "_law_widths"] [] f_ldraws)    :
    FnOk P w K mg base (L2N.CX P w) 6 f fd ["_law_cell_here", "_law_salt", "_law_cells", "_law_tables"] (spF K mg 4 [] f_lsome_row) := by
  refine fn_ok F sc_lsome_row (by decide) (by decide) fun cdv A outer s H E hr => ?_
  have nd := sc_lsome_row.nd
  have tk : TkO (cxO P w K mg base N_lsome_row "_law_some_row" s_lsome_row f cdv A outer s H E) E := L2N.takes_of rfl rfl rfl rfl
  have pn : PnO P w (cxO P w K mg base N_lsome_row "_law_some_row" s_lsome_row f cdv A outer s H E) := passes_of rfl
  unfold m_lsome_row
  exact mss_cons (ms_asg (me_fz (mf_call h_ldraws hr (by decide) tk (ma_cons (me_var (i := 0) rfl (.inl v_lsome_row_0)) (ma_cons (me_var (i := 1) rfl (.inl v_lsome_row_1)) (ma_cons (me_lst (ma_cons (me_int) (ma_cons (me_int) (ma_cons (me_int) (ma_cons (me_int) (ma_nil)))))) (ma_nil)))) (lng_cons (lng_cons (lng_cons lng_nil))) (hg := (g_lsome_row_law_draws _ _ _)))) (mg_tup rfl (mgs_cons (mg_name (i := 5) nd rfl (.inl v_lsome_row_5)) (mgs_cons (mg_name (i := 6) nd rfl (.inl v_lsome_row_6)) (mgs_cons (mg_name (i := 7) nd rfl (.inl v_lsome_row_7)) (mgs_cons (mg_name (i := 8) nd rfl (.inl v_lsome_row_8)) (mgs_nil))))))) (mss_cons (ms_set (i := 4) nd rfl (.inl v_lsome_row_4) (me_ix (me_lst (ma_cons (me_str) (ma_cons (me_str) (ma_cons (me_str) (ma_cons (me_str) (ma_cons (me_str) (ma_cons (me_str) (ma_cons (me_str) (ma_cons (me_str) (ma_cons (me_str) (ma_cons (me_str) (ma_cons (me_str) (ma_cons (me_str) (ma_nil)))))))))))))) (me_var (i := 5) rfl (.inl v_lsome_row_5)))) (mss_cons (ms_if (PW.pt (mw_and (mt_cmp (op_eqM hr.units) os_eq (me_var (i := 4) rfl (.inl v_lsome_row_4)) (me_str) (nomark _)) (mw_one_and (mt_cmp (op_eqM hr.units) os_eq (me_var (i := 3) rfl (.inl v_lsome_row_3)) (me_int) (nomark _))))) (mss_one (ms_set (i := 4) nd rfl (.inl v_lsome_row_4) (me_str))) (mss_nil)) (mss_cons (ms_if (mt_cmp (op_eqM hr.units) os_eq (me_var (i := 4) rfl (.inl v_lsome_row_4)) (me_str) (nomark _)) (mss_one (ms_ret (me_tup (ma_cons (me_var (i := 4) rfl (.inl v_lsome_row_4)) (ma_cons (me_mod (me_var (i := 8) rfl (.inl v_lsome_row_8)) (me_int)) (ma_nil)))))) (mss_nil)) (mss_cons (ms_if (mt_cmp op_inM os_in (me_var (i := 4) rfl (.inl v_lsome_row_4)) (me_tup (ma_cons (me_str) (ma_cons (me_str) (ma_nil)))) rfl) (mss_one (ms_ret (me_tup (ma_cons (me_var (i := 4) rfl (.inl v_lsome_row_4)) (ma_cons (me_mod (me_var (i := 6) rfl (.inl v_lsome_row_6)) (me_var (i := 2) rfl (.inl v_lsome_row_2))) (ma_nil)))))) (mss_nil)) (mss_cons (ms_if (mt_cmp (op_eqM hr.units) os_eq (me_var (i := 4) rfl (.inl v_lsome_row_4)) (me_str) (nomark _)) (mss_one (ms_ret (me_tup (ma_cons (me_var (i := 4) rfl (.inl v_lsome_row_4)) (ma_cons (me_mod (me_var (i := 6) rfl (.inl v_lsome_row_6)) (me_var (i := 2) rfl (.inl v_lsome_row_2))) (ma_cons (me_var (i := 8) rfl (.inl v_lsome_row_8)) (ma_nil))))))) (mss_nil)) (mss_cons (ms_if (mt_cmp (op_eqM hr.units) os_eq (me_var (i := 4) rfl (.inl v_lsome_row_4)) (me_str) (nomark _)) (mss_one (ms_ret (me_tup (ma_cons (me_var (i := 4) rfl (.inl v_lsome_row_4)) (ma_cons (me_mod (me_var (i := 6) rfl (.inl v_lsome_row_6)) (me_var (i := 2) rfl (.inl v_lsome_row_2))) (ma_cons (me_mod (me_var (i := 7) rfl (.inl v_lsome_row_7)) (me_var (i := 3) rfl (.inl v_lsome_row_3))) (ma_nil))))))) (mss_nil)) (mss_one (ms_ret (me_tup (ma_cons (me_var (i := 4) rfl (.inl v_lsome_row_4)) (ma_cons (me_mod (me_var (i := 6) rfl (.inl v_lsome_row_6)) (me_var (i := 2) rfl (.inl v_lsome_row_2))) (ma_cons (me_mod (me_var (i := 7) rfl (.inl v_lsome_row_7)) (me_var (i := 2) rfl (.inl v_lsome_row_2))) (ma_nil)))))))))))))

abbrev s_law148 : Stmt := top 56
abbrev N_law148 : List Str := ["_law_script", "_law_deeds", "_law_kinds", "_law_tables", "_law_rows", "_law_program", "_law_due", "_law_turn", "_law_deed", "_law_kind", "_law_spoil", "_law_way", "_law_other", "_law_like", "_law_lean", "_law_spot", "_law_at", "_law_to", "_law_byte", "_law_found", "_law_table_bytes"]
theorem sc_law148 : FnScope N_law148 ["_law_script"] (defScope s_law148) := ⟨rfl, rfl, rfl, by decide +kernel, rfl, by decide +kernel, by decide +kernel⟩
theorem v_law148_0 : LV s_law148 "_law_script" := by decide +kernel
theorem v_law148_1 : LV s_law148 "_law_deeds" := by decide +kernel
theorem v_law148_2 : LV s_law148 "_law_kinds" := by decide +kernel
theorem v_law148_3 : LV s_law148 "_law_tables" := by decide +kernel
theorem v_law148_4 : LV s_law148 "_law_rows" := by decide +kernel
theorem v_law148_5 : LV s_law148 "_law_program" := by decide +kernel
theorem v_law148_6 : LV s_law148 "_law_due" := by decide +kernel
theorem v_law148_7 : LV s_law148 "_law_turn" := by decide +kernel
theorem v_law148_8 : LV s_law148 "_law_deed" := by decide +kernel
theorem v_law148_9 : LV s_law148 "_law_kind" := by decide +kernel
theorem v_law148_10 : LV s_law148 "_law_spoil" := by decide +kernel
theorem v_law148_11 : LV s_law148 "_law_way" := by decide +kernel
theorem v_law148_12 : LV s_law148 "_law_other" := by decide +kernel
theorem v_law148_13 : LV s_law148 "_law_like" := by decide +kernel
theorem v_law148_14 : LV s_law148 "_law_lean" := by decide +kernel
theorem v_law148_15 : LV s_law148 "_law_spot" := by decide +kernel
theorem v_law148_16 : LV s_law148 "_law_at" := by decide +kernel
theorem v_law148_17 : LV s_law148 "_law_to" := by decide +kernel
theorem v_law148_18 : LV s_law148 "_law_byte" := by decide +kernel
theorem v_law148_19 : LV s_law148 "_law_found" := by decide +kernel
theorem g_law148_law_cell : GV "law" s_law148 "_law_cell" := fun _ _ _ => rfl
theorem g_law148_law_draws : GV "law" s_law148 "_law_draws" := fun _ _ _ => rfl
theorem g_law148_law_own_tables : GV "law" s_law148 "_law_own_tables" := fun _ _ _ => rfl
theorem g_law148_law_own_rows : GV "law" s_law148 "_law_own_rows" := fun _ _ _ => rfl
theorem g_law148_law_some_row : GV "law" s_law148 "_law_some_row" := fun _ _ _ => rfl
theorem g_law148_law_spoilt : GV "law" s_law148 "_law_spoilt" := fun _ _ _ => rfl
theorem g_law148_len : GV "law" s_law148 "len" := fun _ _ _ => rfl
theorem g_law148_tuple : GV "law" s_law148 "tuple" := fun _ _ _ => rfl
theorem g_law148_law_right : GV "law" s_law148 "_law_right" := fun _ _ _ => rfl
theorem g_law148_int : GV "law" s_law148 "int" := fun _ _ _ => rfl
theorem g_law148_range : GV "law" s_law148 "range" := fun _ _ _ => rfl
theorem g_law148_does : GV "law" s_law148 "does" := fun _ _ _ => rfl
theorem g_law148_bool : GV "law" s_law148 "bool" := fun _ _ _ => rfl
theorem g_law148_isinstance : GV "law" s_law148 "isinstance" := fun _ _ _ => rfl
theorem ok_law148 (F : Fun K "law" "law" s_law148 f fd) (B : Bn mg) (h_ldraws : Fd P w K mg base "_law_draws" 4 ["_law_cell_here", "_law_salt", "_law_widths"] [] f_ldraws) (h_lcell : Fd P w K mg base "_law_cell" 2 ["_law_script", "_law_k"] [] f_lcell) (h_lown_tables2 : Fd P w K mg base "_law_own_tables" 2 ["_law_deed", "_law_kind"] [] f_lown_tables2) (h_lown_rows2 : Fd P w K mg base "_law_own_rows" 2 ["_law_deed"] [] f_lown_rows2) (h_lspoilt6 : Fd P w K mg base "_law_spoilt" 2 ["_law_tables", "_law_rows", "_law_way", "_law_at", "_law_to", "_law_byte", "_law_row"] [0, 1] f_lspoilt6) (h_lsome_row : Fd P w K mg base "_law_some_row" 6 ["_law_cell_here", "_law_salt", "_law_cells", "_law_tables"] [] f_lsome_row) (h_lright8 : Fd P w K mg base "_law_right" 6 ["_law_deed", "_law_kind", "_law_program"] [] f_lright8) (h_pdoes : Fd P w K mg base "does" 14 ["deed", "kind", "program"] [] f_pdoes)    :
    FnOk P w K mg base (L2N.CX P w) 16 f fd ["_law_script"] (spF K mg 1 [] f_law148) := by
  refine fn_ok F sc_law148 (by decide) (by decide) fun cdv A outer s H E hr => ?_
  have nd := sc_law148.nd
  have tk : TkO (cxO P w K mg base N_law148 "law" s_law148 f cdv A outer s H E) E := L2N.takes_of rfl rfl rfl rfl
  have pn : PnO P w (cxO P w K mg base N_law148 "law" s_law148 f cdv A outer s H E) := passes_of rfl
  unfold m_law148
  exact mss_cons (ms_asg (me_fz (mf_call h_ldraws hr (by decide) tk (ma_cons (me_fz (mf_call h_lcell hr (by decide) tk (ma_cons (me_var (i := 0) rfl (.inl v_law148_0)) (ma_cons (me_int) (ma_nil))) (lng_cons (lng_cons lng_nil)) (hg := (g_law148_law_cell _ _ _)))) (ma_cons (me_int) (ma_cons (me_lst (ma_cons (me_int) (ma_cons (me_int) (ma_cons (me_int) (ma_cons (me_int) (ma_cons (me_int) (ma_cons (me_int) (ma_nil)))))))) (ma_nil)))) (lng_cons (lng_cons (lng_cons lng_nil))) (hg := (g_law148_law_draws _ _ _)))) (mg_tup rfl (mgs_cons (mg_name (i := 8) nd rfl (.inl v_law148_8)) (mgs_cons (mg_name (i := 9) nd rfl (.inl v_law148_9)) (mgs_cons (mg_name (i := 10) nd rfl (.inl v_law148_10)) (mgs_cons (mg_name (i := 11) nd rfl (.inl v_law148_11)) (mgs_cons (mg_name (i := 12) nd rfl (.inl v_law148_12)) (mgs_cons (mg_name (i := 13) nd rfl (.inl v_law148_13)) (mgs_nil))))))))) (mss_cons (ms_asg (me_fz (mf_call h_ldraws hr (by decide) tk (ma_cons (me_fz (mf_call h_lcell hr (by decide) tk (ma_cons (me_var (i := 0) rfl (.inl v_law148_0)) (ma_cons (me_int) (ma_nil))) (lng_cons (lng_cons lng_nil)) (hg := (g_law148_law_cell _ _ _)))) (ma_cons (me_int) (ma_cons (me_lst (ma_cons (me_int) (ma_cons (me_int) (ma_nil)))) (ma_nil)))) (lng_cons (lng_cons (lng_cons lng_nil))) (hg := (g_law148_law_draws _ _ _)))) (mg_tup rfl (mgs_cons (mg_name (i := 14) nd rfl (.inl v_law148_14)) (mgs_cons (mg_name (i := 15) nd rfl (.inl v_law148_15)) (mgs_nil))))) (mss_cons (ms_asg (me_fz (mf_call h_ldraws hr (by decide) tk (ma_cons (me_fz (mf_call h_lcell hr (by decide) tk (ma_cons (me_var (i := 0) rfl (.inl v_law148_0)) (ma_cons (me_int) (ma_nil))) (lng_cons (lng_cons lng_nil)) (hg := (g_law148_law_cell _ _ _)))) (ma_cons (me_int) (ma_cons (me_lst (ma_cons (me_int) (ma_cons (me_int) (ma_cons (me_int) (ma_nil))))) (ma_nil)))) (lng_cons (lng_cons (lng_cons lng_nil))) (hg := (g_law148_law_draws _ _ _)))) (mg_tup rfl (mgs_cons (mg_name (i := 16) nd rfl (.inl v_law148_16)) (mgs_cons (mg_name (i := 17) nd rfl (.inl v_law148_17)) (mgs_cons (mg_name (i := 18) nd rfl (.inl v_law148_18)) (mgs_nil)))))) (mss_cons (ms_set (i := 1) nd rfl (.inl v_law148_1) (me_tup (ma_cons (me_str) (ma_cons (me_str) (ma_cons (me_str) (ma_nil)))))) (mss_cons (ms_set (i := 2) nd rfl (.inl v_law148_2) (me_tup (ma_cons (me_str) (ma_cons (me_str) (ma_nil))))) (mss_cons (ms_setO (i := 3) nd rfl (.inl v_law148_3) (mf_call h_lown_tables2 hr (by decide) tk (ma_cons (me_ix (me_var (i := 1) rfl (.inl v_law148_1)) (me_var (i := 8) rfl (.inl v_law148_8))) (ma_cons (me_ix (me_var (i := 2) rfl (.inl v_law148_2)) (me_var (i := 9) rfl (.inl v_law148_9))) (ma_nil))) (lng_cons (lng_cons lng_nil)) (hg := (g_law148_law_own_tables _ _ _)))) (mss_cons (ms_setO (i := 4) nd rfl (.inl v_law148_4) (mf_call h_lown_rows2 hr (by decide) tk (ma_cons (me_ix (me_var (i := 1) rfl (.inl v_law148_1)) (me_var (i := 8) rfl (.inl v_law148_8))) (ma_nil)) (lng_cons lng_nil) (hg := (g_law148_law_own_rows _ _ _)))) (mss_cons (ms_if (mt_cmp (op_eqM hr.units) os_eq (me_var (i := 11) rfl (.inl v_law148_11)) (me_int) (nomark _)) (mss_one (ms_set (i := 18) nd rfl (.inl v_law148_18) (me_ix (me_lst (ma_cons (me_var (i := 18) rfl (.inl v_law148_18)) (ma_cons (me_mod (me_var (i := 18) rfl (.inl v_law148_18)) (me_int)) (ma_cons (me_add (me_int) (me_mod (me_var (i := 18) rfl (.inl v_law148_18)) (me_int))) (ma_cons (me_mod (me_var (i := 18) rfl (.inl v_law148_18)) (me_int)) (ma_nil)))))) (me_mod (me_var (i := 16) rfl (.inl v_law148_16)) (me_int))))) (mss_nil)) (mss_cons (ms_if (mt_cmp op_gt os_gt (me_var (i := 10) rfl (.inl v_law148_10)) (me_int) (nomark _)) (mss_one (ms_expr (me_fz (mf_callB h_lspoilt6 hr (by decide) tk (pb_b (i := 3) rfl (.inl v_law148_3) (pb_b (i := 4) rfl (.inl v_law148_4) (pb_v (me_var (i := 11) rfl (.inl v_law148_11)) (pb_v (me_var (i := 16) rfl (.inl v_law148_16)) (pb_v (me_var (i := 17) rfl (.inl v_law148_17)) (pb_v (me_var (i := 18) rfl (.inl v_law148_18)) (pb_v (me_fz (mf_call h_lsome_row hr (by decide) tk (ma_cons (me_fz (mf_call h_lcell hr (by decide) tk (ma_cons (me_var (i := 0) rfl (.inl v_law148_0)) (ma_cons (me_int) (ma_nil))) (lng_cons (lng_cons lng_nil)) (hg := (g_law148_law_cell _ _ _)))) (ma_cons (me_int) (ma_cons (me_int) (ma_cons (me_int) (ma_nil))))) (lng_cons (lng_cons (lng_cons (lng_cons lng_nil)))) (hg := (g_law148_law_some_row _ _ _)))) (pb_nil)))))))) (bsh_b (bsh_b (bsh_v (bsh_v (bsh_v (bsh_v (bsh_v (bsh_nil)))))))) (hg := (g_law148_law_spoilt _ _ _)))))) (mss_nil)) (mss_cons (ms_if (mt_cmp op_lt os_lt (me_var (i := 14) rfl (.inl v_law148_14)) (me_int) (nomark _)) (mss_one (ms_expr (me_lm1 ls_insert PySem.F.slot_list_insert PySem.F.type_list_insert mt_insert (i := 4) rfl (.inl v_law148_4) (ma_cons (me_int) (ma_cons (me_ix (me_tup (ma_cons (me_tup (ma_cons (me_str) (ma_cons (me_int) (ma_cons (me_add (me_int) (me_var (i := 15) rfl (.inl v_law148_15))) (ma_nil))))) (ma_cons (me_tup (ma_cons (me_str) (ma_cons (me_int) (ma_cons (me_add (me_int) (me_var (i := 15) rfl (.inl v_law148_15))) (ma_nil))))) (ma_nil)))) (me_var (i := 14) rfl (.inl v_law148_14))) (ma_nil)))))) (mss_nil)) (mss_cons (ms_if (mt_cmp (op_eqM hr.units) os_eq (me_var (i := 13) rfl (.inl v_law148_13)) (me_int) (nomark _)) (mss_one (ms_setO (i := 4) nd rfl (.inl v_law148_4) (mo_add (me_var (i := 4) rfl (.inl v_law148_4)) (me_mul (me_lst (ma_cons (me_tup (ma_cons (me_str) (ma_cons (me_int) (ma_cons (me_int) (ma_nil))))) (ma_nil))) (me_sub (me_int) (me_lenV B.len (i := 4) rfl (.inl v_law148_4) (hg := (g_law148_len _ _ _)))))))) (mss_nil)) (mss_cons (ms_set (i := 5) nd rfl (.inl v_law148_5) (me_tup (ma_cons (mb_tuple B.tuple (ma_cons (me_fz (mo_lc (own := [("_law_table_bytes", 20)]) (g := .nm 20) rfl nd (mi_val (me_varL (i := 3) rfl (.inl v_law148_3))) (blkOk_at (N' := ["_law_script", "_law_deeds", "_law_kinds", "_law_tables", "_law_rows", "_law_program", "_law_due", "_law_turn", "_law_deed", "_law_kind", "_law_spoil", "_law_way", "_law_other", "_law_like", "_law_lean", "_law_spot", "_law_at", "_law_to", "_law_byte", "_law_found", "_law_table_bytes"]) (sc' := defScope s_law148) rfl rfl (by decide +kernel)) (fun _ _ _ _ _ => pg_name (i := 20) nd rfl (Or.inl rfl)) (fun _ _ _ _ _ => mts_nil) (fun _ _ _ _ _ => mb_tuple B.tuple (ma_cons (me_var (i := 20) rfl (.inl rfl)) (ma_nil)) (hg := rfl)) (hbs := hbs_of rfl))) (ma_nil)) (hg := (g_law148_tuple _ _ _))) (ma_cons (mb_tuple B.tuple (ma_cons (me_var (i := 4) rfl (.inl v_law148_4)) (ma_nil)) (hg := (g_law148_tuple _ _ _))) (ma_nil))))) (mss_cons (ms_if (mt_cmp (op_eqM hr.units) os_eq (me_var (i := 13) rfl (.inl v_law148_13)) (me_int) (nomark _)) (mss_one (ms_set (i := 8) nd rfl (.inl v_law148_8) (me_var (i := 12) rfl (.inl v_law148_12)))) (mss_nil)) (mss_cons (ms_if (mt_cmp (op_eqM hr.units) os_eq (me_var (i := 13) rfl (.inl v_law148_13)) (me_int) (nomark _)) (mss_one (ms_set (i := 9) nd rfl (.inl v_law148_9) (me_sub (me_int) (me_var (i := 9) rfl (.inl v_law148_9))))) (mss_nil)) (mss_cons (ms_set (i := 6) nd rfl (.inl v_law148_6) (me_fz (mf_call h_lright8 hr (by decide) tk (ma_cons (me_ix (me_var (i := 1) rfl (.inl v_law148_1)) (me_var (i := 8) rfl (.inl v_law148_8))) (ma_cons (me_ix (me_var (i := 2) rfl (.inl v_law148_2)) (me_var (i := 9) rfl (.inl v_law148_9))) (ma_cons (me_var (i := 5) rfl (.inl v_law148_5)) (ma_nil)))) (lng_cons (lng_cons (lng_cons lng_nil))) (hg := (g_law148_law_right _ _ _))))) (mss_cons (ms_for pn rfl (mi_r1 B.range (ma_cons (me_sub (me_int) (mb_int B.int (ma_cons (me_cmp (op_eqM hr.units) os_eq (me_var (i := 13) rfl (.inl v_law148_13)) (me_int) (nomark _)) (ma_nil)) (hg := (g_law148_int _ _ _)))) (ma_nil)) (hg := (g_law148_range _ _ _))) (mg_name (i := 7) nd rfl (.inl v_law148_7)) (mss_cons (ms_set (i := 19) nd rfl (.inl v_law148_19) (me_fz (mf_call h_pdoes hr (by decide) tk (ma_cons (me_ix (me_var (i := 1) rfl (.inl v_law148_1)) (me_var (i := 8) rfl (.inl v_law148_8))) (ma_cons (me_ix (me_var (i := 2) rfl (.inl v_law148_2)) (me_var (i := 9) rfl (.inl v_law148_9))) (ma_cons (me_var (i := 5) rfl (.inl v_law148_5)) (ma_nil)))) (lng_cons (lng_cons (lng_cons lng_nil))) (hg := (g_law148_does _ _ _))))) (mss_one (ms_if (PW.pt (mw_or (mt_not (mt_val (mb_isi B.isinstance (ma_cons (me_var (i := 19) rfl (.inl v_law148_19)) (ma_cons (me_bltn B.bool (by decide +kernel) (w := .ty "bool") rfl (hg := (g_law148_bool _ _ _))) ma_nil)) (hg := (g_law148_isinstance _ _ _))))) (mw_one_or (mt_cmp (op_neM hr.units) os_ne (me_var (i := 19) rfl (.inl v_law148_19)) (me_var (i := 6) rfl (.inl v_law148_6)) (nomark _))))) (mss_one (ms_ret (me_bl))) (mss_nil))))) (mss_one (ms_ret (me_bl))))))))))))))))))

end
theorem all_mk {l : PySem.W.OpenLaw} {w : World} {K : PySem.W.Frag} {h : Heap} {mg : Str → Option Value} {fa f0 f1 f2 f3 f4 f5 f6 f7 f8 f9 f10 f11 f12 f13 f14 f15 f16 f17 f18 f19 f20 f21 f22 f23 f24 f25 f26 f27 f28 f29 f30 f31 : Addr} (X : K.In h) (G : h.Ns mainGlobals mg) (hfa : mg "law" = some (.ref fa))
    {od0 an0 od1 an1 od2 an2 od3 an3 od4 an4 od5 an5 od6 an6 od7 an7 od8 an8 od9 an9 od10 an10 od11 an11 od12 an12 od13 an13 od14 an14 od15 an15 od16 an16 od17 an17 od18 an18 od19 an19 od20 an20 od21 an21 od22 an22 od23 an23 od24 an24 od25 an25 od26 an26 od27 an27 od28 an28 od29 an29 od30 an30 od31 an31 : Option Addr} {sl0 sl1 sl2 sl3 sl4 sl5 sl6 sl7 sl8 sl9 sl10 sl11 sl12 sl13 sl14 sl15 sl16 sl17 sl18 sl19 sl20 sl21 sl22 sl23 sl24 sl25 sl26 sl27 sl28 sl29 sl30 sl31 : Array (Option Value)} {oc0 kV0 dc0 pm0 cd0 ct0 oc1 kV1 dc1 pm1 cd1 ct1 oc2 kV2 dc2 pm2 cd2 ct2 oc3 kV3 dc3 pm3 cd3 ct3 oc4 kV4 dc4 pm4 cd4 ct4 oc5 kV5 dc5 pm5 cd5 ct5 oc6 kV6 dc6 pm6 cd6 ct6 oc7 kV7 dc7 pm7 cd7 ct7 oc8 kV8 dc8 pm8 cd8 ct8 oc9 kV9 dc9 pm9 cd9 ct9 oc10 kV10 dc10 pm10 cd10 ct10 oc11 kV11 dc11 pm11 cd11 ct11 oc12 kV12 dc12 pm12 cd12 ct12 oc13 kV13 dc13 pm13 cd13 ct13 oc14 kV14 dc14 pm14 cd14 ct14 oc15 kV15 dc15 pm15 cd15 ct15 oc16 kV16 dc16 pm16 cd16 ct16 oc17 kV17 dc17 pm17 cd17 ct17 oc18 kV18 dc18 pm18 cd18 ct18 oc19 kV19 dc19 pm19 cd19 ct19 oc20 kV20 dc20 pm20 cd20 ct20 oc21 kV21 dc21 pm21 cd21 ct21 oc22 kV22 dc22 pm22 cd22 ct22 oc23 kV23 dc23 pm23 cd23 ct23 oc24 kV24 dc24 pm24 cd24 ct24 oc25 kV25 dc25 pm25 cd25 ct25 oc26 kV26 dc26 pm26 cd26 ct26 oc27 kV27 dc27 pm27 cd27 ct27 oc28 kV28 dc28 pm28 cd28 ct28 oc29 kV29 dc29 pm29 cd29 ct29 oc30 kV30 dc30 pm30 cd30 ct30 oc31 kV31 dc31 pm31 cd31 ct31 : Value}
    (a0 : PySem.W.nsIn K mainGlobals "_law_mixed" = some (some (.ref f0))) (l0 : K.lookup f0 = some ⟨oc0, od0, .func (PySem.W.fnOf "_law_mixed" "_law_mixed" (defArgs s_lmixed) (defBody s_lmixed) (defScope s_lmixed) .none kV0 dc0 pm0 an0 cd0 ct0), sl0⟩) (c0 : PySem.W.codeIn K cd0 "_law_mixed" = true) (k0 : PySem.W.keepIn K (.ref f0) = true)
    (a1 : PySem.W.nsIn K mainGlobals "_law_draws" = some (some (.ref f1))) (l1 : K.lookup f1 = some ⟨oc1, od1, .func (PySem.W.fnOf "_law_draws" "_law_draws" (defArgs s_ldraws) (defBody s_ldraws) (defScope s_ldraws) .none kV1 dc1 pm1 an1 cd1 ct1), sl1⟩) (c1 : PySem.W.codeIn K cd1 "_law_draws" = true) (k1 : PySem.W.keepIn K (.ref f1) = true)
    (a2 : PySem.W.nsIn K mainGlobals "_law_own_tables" = some (some (.ref f2))) (l2 : K.lookup f2 = some ⟨oc2, od2, .func (PySem.W.fnOf "_law_own_tables" "_law_own_tables" (defArgs s_lown_tables2) (defBody s_lown_tables2) (defScope s_lown_tables2) .none kV2 dc2 pm2 an2 cd2 ct2), sl2⟩) (c2 : PySem.W.codeIn K cd2 "_law_own_tables" = true) (k2 : PySem.W.keepIn K (.ref f2) = true)
    (a3 : PySem.W.nsIn K mainGlobals "_law_own_rows" = some (some (.ref f3))) (l3 : K.lookup f3 = some ⟨oc3, od3, .func (PySem.W.fnOf "_law_own_rows" "_law_own_rows" (defArgs s_lown_rows2) (defBody s_lown_rows2) (defScope s_lown_rows2) .none kV3 dc3 pm3 an3 cd3 ct3), sl3⟩) (c3 : PySem.W.codeIn K cd3 "_law_own_rows" = true) (k3 : PySem.W.keepIn K (.ref f3) = true)
    (a4 : PySem.W.nsIn K mainGlobals "_law_run" = some (some (.ref f4))) (l4 : K.lookup f4 = some ⟨oc4, od4, .func (PySem.W.fnOf "_law_run" "_law_run" (defArgs s_lrun) (defBody s_lrun) (defScope s_lrun) .none kV4 dc4 pm4 an4 cd4 ct4), sl4⟩) (c4 : PySem.W.codeIn K cd4 "_law_run" = true) (k4 : PySem.W.keepIn K (.ref f4) = true)
    (a5 : PySem.W.nsIn K mainGlobals "_law_pair_right" = some (some (.ref f5))) (l5 : K.lookup f5 = some ⟨oc5, od5, .func (PySem.W.fnOf "_law_pair_right" "_law_pair_right" (defArgs s_lpair_right) (defBody s_lpair_right) (defScope s_lpair_right) .none kV5 dc5 pm5 an5 cd5 ct5), sl5⟩) (c5 : PySem.W.codeIn K cd5 "_law_pair_right" = true) (k5 : PySem.W.keepIn K (.ref f5) = true)
    (a6 : PySem.W.nsIn K mainGlobals "_law_right" = some (some (.ref f6))) (l6 : K.lookup f6 = some ⟨oc6, od6, .func (PySem.W.fnOf "_law_right" "_law_right" (defArgs s_lright8) (defBody s_lright8) (defScope s_lright8) .none kV6 dc6 pm6 an6 cd6 ct6), sl6⟩) (c6 : PySem.W.codeIn K cd6 "_law_right" = true) (k6 : PySem.W.keepIn K (.ref f6) = true)
    (a7 : PySem.W.nsIn K mainGlobals "_law_cell" = some (some (.ref f7))) (l7 : K.lookup f7 = some ⟨oc7, od7, .func (PySem.W.fnOf "_law_cell" "_law_cell" (defArgs s_lcell) (defBody s_lcell) (defScope s_lcell) .none kV7 dc7 pm7 an7 cd7 ct7), sl7⟩) (c7 : PySem.W.codeIn K cd7 "_law_cell" = true) (k7 : PySem.W.keepIn K (.ref f7) = true)
    (a8 : PySem.W.nsIn K mainGlobals "_law_spoilt" = some (some (.ref f8))) (l8 : K.lookup f8 = some ⟨oc8, od8, .func (PySem.W.fnOf "_law_spoilt" "_law_spoilt" (defArgs s_lspoilt6) (defBody s_lspoilt6) (defScope s_lspoilt6) .none kV8 dc8 pm8 an8 cd8 ct8), sl8⟩) (c8 : PySem.W.codeIn K cd8 "_law_spoilt" = true) (k8 : PySem.W.keepIn K (.ref f8) = true)
    (a9 : PySem.W.nsIn K mainGlobals "is_table" = some (some (.ref f9))) (l9 : K.lookup f9 = some ⟨oc9, od9, .func (PySem.W.fnOf "is_table" "is_table" (defArgs s_pis_table) (defBody s_pis_table) (defScope s_pis_table) .none kV9 dc9 pm9 an9 cd9 ct9), sl9⟩) (c9 : PySem.W.codeIn K cd9 "is_table" = true) (k9 : PySem.W.keepIn K (.ref f9) = true)
    (a10 : PySem.W.nsIn K mainGlobals "parts_due" = some (some (.ref f10))) (l10 : K.lookup f10 = some ⟨oc10, od10, .func (PySem.W.fnOf "parts_due" "parts_due" (defArgs s_pparts_due) (defBody s_pparts_due) (defScope s_pparts_due) .none kV10 dc10 pm10 an10 cd10 ct10), sl10⟩) (c10 : PySem.W.codeIn K cd10 "parts_due" = true) (k10 : PySem.W.keepIn K (.ref f10) = true)
    (a11 : PySem.W.nsIn K mainGlobals "is_row" = some (some (.ref f11))) (l11 : K.lookup f11 = some ⟨oc11, od11, .func (PySem.W.fnOf "is_row" "is_row" (defArgs s_pis_row) (defBody s_pis_row) (defScope s_pis_row) .none kV11 dc11 pm11 an11 cd11 ct11), sl11⟩) (c11 : PySem.W.codeIn K cd11 "is_row" = true) (k11 : PySem.W.keepIn K (.ref f11) = true)
    (a12 : PySem.W.nsIn K mainGlobals "hold_program" = some (some (.ref f12))) (l12 : K.lookup f12 = some ⟨oc12, od12, .func (PySem.W.fnOf "hold_program" "hold_program" (defArgs s_phold_program) (defBody s_phold_program) (defScope s_phold_program) .none kV12 dc12 pm12 an12 cd12 ct12), sl12⟩) (c12 : PySem.W.codeIn K cd12 "hold_program" = true) (k12 : PySem.W.keepIn K (.ref f12) = true)
    (a13 : PySem.W.nsIn K mainGlobals "shift_step" = some (some (.ref f13))) (l13 : K.lookup f13 = some ⟨oc13, od13, .func (PySem.W.fnOf "shift_step" "shift_step" (defArgs s_pshift_step) (defBody s_pshift_step) (defScope s_pshift_step) .none kV13 dc13 pm13 an13 cd13 ct13), sl13⟩) (c13 : PySem.W.codeIn K cd13 "shift_step" = true) (k13 : PySem.W.keepIn K (.ref f13) = true)
    (a14 : PySem.W.nsIn K mainGlobals "sum_step" = some (some (.ref f14))) (l14 : K.lookup f14 = some ⟨oc14, od14, .func (PySem.W.fnOf "sum_step" "sum_step" (defArgs s_psum_step) (defBody s_psum_step) (defScope s_psum_step) .none kV14 dc14 pm14 an14 cd14 ct14), sl14⟩) (c14 : PySem.W.codeIn K cd14 "sum_step" = true) (k14 : PySem.W.keepIn K (.ref f14) = true)
    (a15 : PySem.W.nsIn K mainGlobals "step" = some (some (.ref f15))) (l15 : K.lookup f15 = some ⟨oc15, od15, .func (PySem.W.fnOf "step" "step" (defArgs s_pstep) (defBody s_pstep) (defScope s_pstep) .none kV15 dc15 pm15 an15 cd15 ct15), sl15⟩) (c15 : PySem.W.codeIn K cd15 "step" = true) (k15 : PySem.W.keepIn K (.ref f15) = true)
    (a16 : PySem.W.nsIn K mainGlobals "work" = some (some (.ref f16))) (l16 : K.lookup f16 = some ⟨oc16, od16, .func (PySem.W.fnOf "work" "work" (defArgs s_pwork) (defBody s_pwork) (defScope s_pwork) .none kV16 dc16 pm16 an16 cd16 ct16), sl16⟩) (c16 : PySem.W.codeIn K cd16 "work" = true) (k16 : PySem.W.keepIn K (.ref f16) = true)
    (a17 : PySem.W.nsIn K mainGlobals "power" = some (some (.ref f17))) (l17 : K.lookup f17 = some ⟨oc17, od17, .func (PySem.W.fnOf "power" "power" (defArgs s_ppower) (defBody s_ppower) (defScope s_ppower) .none kV17 dc17 pm17 an17 cd17 ct17), sl17⟩) (c17 : PySem.W.codeIn K cd17 "power" = true) (k17 : PySem.W.keepIn K (.ref f17) = true)
    (a18 : PySem.W.nsIn K mainGlobals "least_of" = some (some (.ref f18))) (l18 : K.lookup f18 = some ⟨oc18, od18, .func (PySem.W.fnOf "least_of" "least_of" (defArgs s_pleast_of) (defBody s_pleast_of) (defScope s_pleast_of) .none kV18 dc18 pm18 an18 cd18 ct18), sl18⟩) (c18 : PySem.W.codeIn K cd18 "least_of" = true) (k18 : PySem.W.keepIn K (.ref f18) = true)
    (a19 : PySem.W.nsIn K mainGlobals "folded" = some (some (.ref f19))) (l19 : K.lookup f19 = some ⟨oc19, od19, .func (PySem.W.fnOf "folded" "folded" (defArgs s_pfolded) (defBody s_pfolded) (defScope s_pfolded) .none kV19 dc19 pm19 an19 cd19 ct19), sl19⟩) (c19 : PySem.W.codeIn K cd19 "folded" = true) (k19 : PySem.W.keepIn K (.ref f19) = true)
    (a20 : PySem.W.nsIn K mainGlobals "figures_of" = some (some (.ref f20))) (l20 : K.lookup f20 = some ⟨oc20, od20, .func (PySem.W.fnOf "figures_of" "figures_of" (defArgs s_pfigures_of) (defBody s_pfigures_of) (defScope s_pfigures_of) .none kV20 dc20 pm20 an20 cd20 ct20), sl20⟩) (c20 : PySem.W.codeIn K cd20 "figures_of" = true) (k20 : PySem.W.keepIn K (.ref f20) = true)
    (a21 : PySem.W.nsIn K mainGlobals "sign_half" = some (some (.ref f21))) (l21 : K.lookup f21 = some ⟨oc21, od21, .func (PySem.W.fnOf "sign_half" "sign_half" (defArgs s_psign_half) (defBody s_psign_half) (defScope s_psign_half) .none kV21 dc21 pm21 an21 cd21 ct21), sl21⟩) (c21 : PySem.W.codeIn K cd21 "sign_half" = true) (k21 : PySem.W.keepIn K (.ref f21) = true)
    (a22 : PySem.W.nsIn K mainGlobals "halves_of" = some (some (.ref f22))) (l22 : K.lookup f22 = some ⟨oc22, od22, .func (PySem.W.fnOf "halves_of" "halves_of" (defArgs s_phalves_of) (defBody s_phalves_of) (defScope s_phalves_of) .none kV22 dc22 pm22 an22 cd22 ct22), sl22⟩) (c22 : PySem.W.codeIn K cd22 "halves_of" = true) (k22 : PySem.W.keepIn K (.ref f22) = true)
    (a23 : PySem.W.nsIn K mainGlobals "kept_halves" = some (some (.ref f23))) (l23 : K.lookup f23 = some ⟨oc23, od23, .func (PySem.W.fnOf "kept_halves" "kept_halves" (defArgs s_pkept_halves) (defBody s_pkept_halves) (defScope s_pkept_halves) .none kV23 dc23 pm23 an23 cd23 ct23), sl23⟩) (c23 : PySem.W.codeIn K cd23 "kept_halves" = true) (k23 : PySem.W.keepIn K (.ref f23) = true)
    (a24 : PySem.W.nsIn K mainGlobals "most_of" = some (some (.ref f24))) (l24 : K.lookup f24 = some ⟨oc24, od24, .func (PySem.W.fnOf "most_of" "most_of" (defArgs s_pmost_of) (defBody s_pmost_of) (defScope s_pmost_of) .none kV24 dc24 pm24 an24 cd24 ct24), sl24⟩) (c24 : PySem.W.codeIn K cd24 "most_of" = true) (k24 : PySem.W.keepIn K (.ref f24) = true)
    (a25 : PySem.W.nsIn K mainGlobals "fits" = some (some (.ref f25))) (l25 : K.lookup f25 = some ⟨oc25, od25, .func (PySem.W.fnOf "fits" "fits" (defArgs s_pfits) (defBody s_pfits) (defScope s_pfits) .none kV25 dc25 pm25 an25 cd25 ct25), sl25⟩) (c25 : PySem.W.codeIn K cd25 "fits" = true) (k25 : PySem.W.keepIn K (.ref f25) = true)
    (a26 : PySem.W.nsIn K mainGlobals "kept" = some (some (.ref f26))) (l26 : K.lookup f26 = some ⟨oc26, od26, .func (PySem.W.fnOf "kept" "kept" (defArgs s_pkept) (defBody s_pkept) (defScope s_pkept) .none kV26 dc26 pm26 an26 cd26 ct26), sl26⟩) (c26 : PySem.W.codeIn K cd26 "kept" = true) (k26 : PySem.W.keepIn K (.ref f26) = true)
    (a27 : PySem.W.nsIn K mainGlobals "due_of" = some (some (.ref f27))) (l27 : K.lookup f27 = some ⟨oc27, od27, .func (PySem.W.fnOf "due_of" "due_of" (defArgs s_pdue_of) (defBody s_pdue_of) (defScope s_pdue_of) .none kV27 dc27 pm27 an27 cd27 ct27), sl27⟩) (c27 : PySem.W.codeIn K cd27 "due_of" = true) (k27 : PySem.W.keepIn K (.ref f27) = true)
    (a28 : PySem.W.nsIn K mainGlobals "does_pair" = some (some (.ref f28))) (l28 : K.lookup f28 = some ⟨oc28, od28, .func (PySem.W.fnOf "does_pair" "does_pair" (defArgs s_pdoes_pair) (defBody s_pdoes_pair) (defScope s_pdoes_pair) .none kV28 dc28 pm28 an28 cd28 ct28), sl28⟩) (c28 : PySem.W.codeIn K cd28 "does_pair" = true) (k28 : PySem.W.keepIn K (.ref f28) = true)
    (a29 : PySem.W.nsIn K mainGlobals "does" = some (some (.ref f29))) (l29 : K.lookup f29 = some ⟨oc29, od29, .func (PySem.W.fnOf "does" "does" (defArgs s_pdoes) (defBody s_pdoes) (defScope s_pdoes) .none kV29 dc29 pm29 an29 cd29 ct29), sl29⟩) (c29 : PySem.W.codeIn K cd29 "does" = true) (k29 : PySem.W.keepIn K (.ref f29) = true)
    (a30 : PySem.W.nsIn K mainGlobals "_law_some_row" = some (some (.ref f30))) (l30 : K.lookup f30 = some ⟨oc30, od30, .func (PySem.W.fnOf "_law_some_row" "_law_some_row" (defArgs s_lsome_row) (defBody s_lsome_row) (defScope s_lsome_row) .none kV30 dc30 pm30 an30 cd30 ct30), sl30⟩) (c30 : PySem.W.codeIn K cd30 "_law_some_row" = true) (k30 : PySem.W.keepIn K (.ref f30) = true)
    (a31 : PySem.W.nsIn K mainGlobals "law" = some (some (.ref f31))) (l31 : K.lookup f31 = some ⟨oc31, od31, .func (PySem.W.fnOf "law" "law" (defArgs s_law148) (defBody s_law148) (defScope s_law148) .none kV31 dc31 pm31 an31 cd31 ct31), sl31⟩) (c31 : PySem.W.codeIn K cd31 "law" = true) (k31 : PySem.W.keepIn K (.ref f31) = true)
    (z_len : PySem.W.nsIn K mainGlobals "len" = some none)
    (z_range : PySem.W.nsIn K mainGlobals "range" = some none)
    (z_abs : PySem.W.nsIn K mainGlobals "abs" = some none)
    (z_max : PySem.W.nsIn K mainGlobals "max" = some none)
    (z_min : PySem.W.nsIn K mainGlobals "min" = some none)
    (z_int : PySem.W.nsIn K mainGlobals "int" = some none)
    (z_str : PySem.W.nsIn K mainGlobals "str" = some none)
    (z_tuple : PySem.W.nsIn K mainGlobals "tuple" = some none)
    (z_list : PySem.W.nsIn K mainGlobals "list" = some none)
    (z_all : PySem.W.nsIn K mainGlobals "all" = some none)
    (z_any : PySem.W.nsIn K mainGlobals "any" = some none)
    (z_isinstance : PySem.W.nsIn K mainGlobals "isinstance" = some none)
    (z_divmod : PySem.W.nsIn K mainGlobals "divmod" = some none)
    (z_sum : PySem.W.nsIn K mainGlobals "sum" = some none)
    (z_zip : PySem.W.nsIn K mainGlobals "zip" = some none)
    (z_enumerate : PySem.W.nsIn K mainGlobals "enumerate" = some none)
    (z_reversed : PySem.W.nsIn K mainGlobals "reversed" = some none)
    (z_sorted : PySem.W.nsIn K mainGlobals "sorted" = some none)
    (z_dict : PySem.W.nsIn K mainGlobals "dict" = some none)
    (z_set : PySem.W.nsIn K mainGlobals "set" = some none)
    (z_bool : PySem.W.nsIn K mainGlobals "bool" = some none)
    {qt_BYTES : Tok} (qa_BYTES : PySem.W.nsIn K mainGlobals "BYTES" = some (some (.int 256 qt_BYTES)))
    {q_OTHER_PARTS : Addr} {qi_OTHER_PARTS : Array DictEntry} {qn_OTHER_PARTS : Nat} (qa_OTHER_PARTS : PySem.W.nsIn K mainGlobals "OTHER_PARTS" = some (some (.ref q_OTHER_PARTS))) (ql_OTHER_PARTS : K.lookup q_OTHER_PARTS = some ⟨.type "dict", none, .dict qi_OTHER_PARTS qn_OTHER_PARTS, #[]⟩) (qk_OTHER_PARTS : PySem.W.KeysLit w.params qi_OTHER_PARTS.toList) (qs_OTHER_PARTS : (q_OTHER_PARTS == sysModules) = false) (qe_OTHER_PARTS : dctIs [("look", (.str "ct")), ("mark", (.str "m"))] qi_OTHER_PARTS.toList = true)
    {q_PARTS : Addr} {qi_PARTS : Array DictEntry} {qn_PARTS : Nat} (qa_PARTS : PySem.W.nsIn K mainGlobals "PARTS" = some (some (.ref q_PARTS))) (ql_PARTS : K.lookup q_PARTS = some ⟨.type "dict", none, .dict qi_PARTS qn_PARTS, #[]⟩) (qk_PARTS : PySem.W.KeysLit w.params qi_PARTS.toList) (qs_PARTS : (q_PARTS == sysModules) = false) (qe_PARTS : dctIs [("put", (.str "cb")), ("copy", (.str "cc")), ("add", (.str "cc")), ("addc", (.str "cc")), ("and", (.str "cc")), ("or", (.str "cc")), ("left", (.str "c")), ("right", (.str "c"))] qi_PARTS.toList = true)
    {qt_MOST_TABLES : Tok} (qa_MOST_TABLES : PySem.W.nsIn K mainGlobals "MOST_TABLES" = some (some (.int 16 qt_MOST_TABLES)))
    {qt_MOST_ROWS : Tok} (qa_MOST_ROWS : PySem.W.nsIn K mainGlobals "MOST_ROWS" = some (some (.int 9000 qt_MOST_ROWS)))
    {qt_MINUS_HALF : Tok} (qa_MINUS_HALF : PySem.W.nsIn K mainGlobals "MINUS_HALF" = some (some (.int 13 qt_MINUS_HALF)))
    {qt_PLUS_HALF : Tok} (qa_PLUS_HALF : PySem.W.nsIn K mainGlobals "PLUS_HALF" = some (some (.int 12 qt_PLUS_HALF)))
    {qt_ZONE_HALF : Tok} (qa_ZONE_HALF : PySem.W.nsIn K mainGlobals "ZONE_HALF" = some (some (.int 15 qt_ZONE_HALF)))
    {qt_ALL_CELLS : Tok} (qa_ALL_CELLS : PySem.W.nsIn K mainGlobals "ALL_CELLS" = some (some (.int 256 qt_ALL_CELLS)))
    {q_DEEDS : Addr} {qd_DEEDS : Option Addr} {qi_DEEDS : Array Value} {qn_DEEDS : Nat} {qs_DEEDS : Array (Option Value)} (qa_DEEDS : PySem.W.nsIn K mainGlobals "DEEDS" = some (some (.ref q_DEEDS))) (ql_DEEDS : K.lookup q_DEEDS = some ⟨.type "tuple", qd_DEEDS, .seq qi_DEEDS qn_DEEDS, qs_DEEDS⟩) (qe_DEEDS : flatsIs [(.str "sum"), (.str "difference"), (.str "compare")] qi_DEEDS.toList = true) (qz_DEEDS : qi_DEEDS.size ≤ 1000)
    {q_KINDS : Addr} {qd_KINDS : Option Addr} {qi_KINDS : Array Value} {qn_KINDS : Nat} {qs_KINDS : Array (Option Value)} (qa_KINDS : PySem.W.nsIn K mainGlobals "KINDS" = some (some (.ref q_KINDS))) (ql_KINDS : K.lookup q_KINDS = some ⟨.type "tuple", qd_KINDS, .seq qi_KINDS qn_KINDS, qs_KINDS⟩) (qe_KINDS : flatsIs [(.str "packed"), (.str "spread")] qi_KINDS.toList = true) (qz_KINDS : qi_KINDS.size ≤ 1000)
    {c_LoftError : Addr} (n_LoftError : PySem.W.nsIn K mainGlobals "LoftError" = some (some (.ref c_LoftError)))
    {c_NoDeed : Addr} (n_NoDeed : PySem.W.nsIn K mainGlobals "NoDeed" = some (some (.ref c_NoDeed)))
    {c_NoFit : Addr} (n_NoFit : PySem.W.nsIn K mainGlobals "NoFit" = some (some (.ref c_NoFit)))
    {c_NoRow : Addr} (n_NoRow : PySem.W.nsIn K mainGlobals "NoRow" = some (some (.ref c_NoRow)))
    {c_NoShape : Addr} (n_NoShape : PySem.W.nsIn K mainGlobals "NoShape" = some (some (.ref c_NoShape)))
    {c_NoTable : Addr} (n_NoTable : PySem.W.nsIn K mainGlobals "NoTable" = some (some (.ref c_NoTable)))
    (b1_LoftError : PySem.W.readsIn K c_LoftError (.type "type") = true)
    (b2_LoftError : PySem.W.specialIn K (.ref c_LoftError) "__getattribute__" = some (some (.builtin "type.__getattribute__")))
    (b3_LoftError : PySem.W.findCls K (.ref c_LoftError) (.type "type") "__init__" = some (.val (.builtin "ValueError.__init__")))
    {nm_NoDeed q_NoDeed : Str} {N_NoDeed i_NoDeed : Addr} {bs_NoDeed : List Value} {sn_NoDeed : List Str} {sub_NoDeed : List Value} {ab_NoDeed : Bool} {col_NoDeed : Option Bool} {dd_NoDeed : Option Addr} {k0_NoDeed k1_NoDeed k2_NoDeed k3_NoDeed k5_NoDeed : Option Value}
    (l_NoDeed : K.lookup c_NoDeed = some (excClassObj nm_NoDeed q_NoDeed c_NoDeed N_NoDeed bs_NoDeed [.ref c_LoftError, .type "ValueError", .type "Exception", .type "BaseException", .type "object"] true sn_NoDeed sub_NoDeed ab_NoDeed col_NoDeed dd_NoDeed k0_NoDeed k1_NoDeed k2_NoDeed k3_NoDeed k5_NoDeed "ValueError.__new__"))
    (s_NoDeed : PySem.W.findIn K (.ref c_NoDeed) "__setattr__" = some (some (.builtin "object.__setattr__")))
    (e_NoDeed : PySem.W.subIn K (.ref c_NoDeed) (.type "BaseException") = some true)
    (t_NoDeed : PySem.W.typeIn K (.ref c_NoDeed) = some (.type "type"))
    (p_NoDeed : PySem.W.keepIn K (.ref c_NoDeed) = true)
    (i_NoDeed_ : PySem.W.findIn K (.ref c_NoDeed) "__init__" = some (some (.ref i_NoDeed)))
    (j_NoDeed : PySem.W.typeIn K (.ref i_NoDeed) = some (.type "function"))
    (f_NoDeed_deed : PySem.W.findIn K (.ref c_NoDeed) "deed" = some none)
    {io_NoDeed ik_NoDeed id_NoDeed ip_NoDeed ic_NoDeed it_NoDeed : Value} {iod_NoDeed ia_NoDeed : Option Addr} {is_NoDeed : Array (Option Value)}
    (g_NoDeed : K.lookup i_NoDeed = some ⟨io_NoDeed, iod_NoDeed, .func (PySem.W.fnOf "__init__" "NoDeed.__init__" (defArgs s_ini_NoDeed) (defBody s_ini_NoDeed) (defScope s_ini_NoDeed) .none ik_NoDeed id_NoDeed ip_NoDeed ia_NoDeed ic_NoDeed it_NoDeed), is_NoDeed⟩)
    (h_NoDeed_ : PySem.W.codeIn K ic_NoDeed "NoDeed.__init__" = true)
    (m_NoDeed_ : PySem.W.keepIn K (.ref i_NoDeed) = true)
    {nm_NoFit q_NoFit : Str} {N_NoFit i_NoFit : Addr} {bs_NoFit : List Value} {sn_NoFit : List Str} {sub_NoFit : List Value} {ab_NoFit : Bool} {col_NoFit : Option Bool} {dd_NoFit : Option Addr} {k0_NoFit k1_NoFit k2_NoFit k3_NoFit k5_NoFit : Option Value}
    (l_NoFit : K.lookup c_NoFit = some (excClassObj nm_NoFit q_NoFit c_NoFit N_NoFit bs_NoFit [.ref c_LoftError, .type "ValueError", .type "Exception", .type "BaseException", .type "object"] true sn_NoFit sub_NoFit ab_NoFit col_NoFit dd_NoFit k0_NoFit k1_NoFit k2_NoFit k3_NoFit k5_NoFit "ValueError.__new__"))
    (s_NoFit : PySem.W.findIn K (.ref c_NoFit) "__setattr__" = some (some (.builtin "object.__setattr__")))
    (e_NoFit : PySem.W.subIn K (.ref c_NoFit) (.type "BaseException") = some true)
    (t_NoFit : PySem.W.typeIn K (.ref c_NoFit) = some (.type "type"))
    (p_NoFit : PySem.W.keepIn K (.ref c_NoFit) = true)
    (i_NoFit_ : PySem.W.findIn K (.ref c_NoFit) "__init__" = some (some (.ref i_NoFit)))
    (j_NoFit : PySem.W.typeIn K (.ref i_NoFit) = some (.type "function"))
    (f_NoFit_number : PySem.W.findIn K (.ref c_NoFit) "number" = some none)
    {io_NoFit ik_NoFit id_NoFit ip_NoFit ic_NoFit it_NoFit : Value} {iod_NoFit ia_NoFit : Option Addr} {is_NoFit : Array (Option Value)}
    (g_NoFit : K.lookup i_NoFit = some ⟨io_NoFit, iod_NoFit, .func (PySem.W.fnOf "__init__" "NoFit.__init__" (defArgs s_ini_NoFit) (defBody s_ini_NoFit) (defScope s_ini_NoFit) .none ik_NoFit id_NoFit ip_NoFit ia_NoFit ic_NoFit it_NoFit), is_NoFit⟩)
    (h_NoFit_ : PySem.W.codeIn K ic_NoFit "NoFit.__init__" = true)
    (m_NoFit_ : PySem.W.keepIn K (.ref i_NoFit) = true)
    {nm_NoRow q_NoRow : Str} {N_NoRow i_NoRow : Addr} {bs_NoRow : List Value} {sn_NoRow : List Str} {sub_NoRow : List Value} {ab_NoRow : Bool} {col_NoRow : Option Bool} {dd_NoRow : Option Addr} {k0_NoRow k1_NoRow k2_NoRow k3_NoRow k5_NoRow : Option Value}
    (l_NoRow : K.lookup c_NoRow = some (excClassObj nm_NoRow q_NoRow c_NoRow N_NoRow bs_NoRow [.ref c_LoftError, .type "ValueError", .type "Exception", .type "BaseException", .type "object"] true sn_NoRow sub_NoRow ab_NoRow col_NoRow dd_NoRow k0_NoRow k1_NoRow k2_NoRow k3_NoRow k5_NoRow "ValueError.__new__"))
    (s_NoRow : PySem.W.findIn K (.ref c_NoRow) "__setattr__" = some (some (.builtin "object.__setattr__")))
    (e_NoRow : PySem.W.subIn K (.ref c_NoRow) (.type "BaseException") = some true)
    (t_NoRow : PySem.W.typeIn K (.ref c_NoRow) = some (.type "type"))
    (p_NoRow : PySem.W.keepIn K (.ref c_NoRow) = true)
    (i_NoRow_ : PySem.W.findIn K (.ref c_NoRow) "__init__" = some (some (.ref i_NoRow)))
    (j_NoRow : PySem.W.typeIn K (.ref i_NoRow) = some (.type "function"))
    (f_NoRow_at : PySem.W.findIn K (.ref c_NoRow) "at" = some none)
    {io_NoRow ik_NoRow id_NoRow ip_NoRow ic_NoRow it_NoRow : Value} {iod_NoRow ia_NoRow : Option Addr} {is_NoRow : Array (Option Value)}
    (g_NoRow : K.lookup i_NoRow = some ⟨io_NoRow, iod_NoRow, .func (PySem.W.fnOf "__init__" "NoRow.__init__" (defArgs s_ini_NoRow) (defBody s_ini_NoRow) (defScope s_ini_NoRow) .none ik_NoRow id_NoRow ip_NoRow ia_NoRow ic_NoRow it_NoRow), is_NoRow⟩)
    (h_NoRow_ : PySem.W.codeIn K ic_NoRow "NoRow.__init__" = true)
    (m_NoRow_ : PySem.W.keepIn K (.ref i_NoRow) = true)
    {nm_NoShape q_NoShape : Str} {N_NoShape i_NoShape : Addr} {bs_NoShape : List Value} {sn_NoShape : List Str} {sub_NoShape : List Value} {ab_NoShape : Bool} {col_NoShape : Option Bool} {dd_NoShape : Option Addr} {k0_NoShape k1_NoShape k2_NoShape k3_NoShape k5_NoShape : Option Value}
    (l_NoShape : K.lookup c_NoShape = some (excClassObj nm_NoShape q_NoShape c_NoShape N_NoShape bs_NoShape [.ref c_LoftError, .type "ValueError", .type "Exception", .type "BaseException", .type "object"] true sn_NoShape sub_NoShape ab_NoShape col_NoShape dd_NoShape k0_NoShape k1_NoShape k2_NoShape k3_NoShape k5_NoShape "ValueError.__new__"))
    (s_NoShape : PySem.W.findIn K (.ref c_NoShape) "__setattr__" = some (some (.builtin "object.__setattr__")))
    (e_NoShape : PySem.W.subIn K (.ref c_NoShape) (.type "BaseException") = some true)
    (t_NoShape : PySem.W.typeIn K (.ref c_NoShape) = some (.type "type"))
    (p_NoShape : PySem.W.keepIn K (.ref c_NoShape) = true)
    (i_NoShape_ : PySem.W.findIn K (.ref c_NoShape) "__init__" = some (some (.ref i_NoShape)))
    (j_NoShape : PySem.W.typeIn K (.ref i_NoShape) = some (.type "function"))
    (f_NoShape_part : PySem.W.findIn K (.ref c_NoShape) "part" = some none)
    {io_NoShape ik_NoShape id_NoShape ip_NoShape ic_NoShape it_NoShape : Value} {iod_NoShape ia_NoShape : Option Addr} {is_NoShape : Array (Option Value)}
    (g_NoShape : K.lookup i_NoShape = some ⟨io_NoShape, iod_NoShape, .func (PySem.W.fnOf "__init__" "NoShape.__init__" (defArgs s_ini_NoShape) (defBody s_ini_NoShape) (defScope s_ini_NoShape) .none ik_NoShape id_NoShape ip_NoShape ia_NoShape ic_NoShape it_NoShape), is_NoShape⟩)
    (h_NoShape_ : PySem.W.codeIn K ic_NoShape "NoShape.__init__" = true)
    (m_NoShape_ : PySem.W.keepIn K (.ref i_NoShape) = true)
    {nm_NoTable q_NoTable : Str} {N_NoTable i_NoTable : Addr} {bs_NoTable : List Value} {sn_NoTable : List Str} {sub_NoTable : List Value} {ab_NoTable : Bool} {col_NoTable : Option Bool} {dd_NoTable : Option Addr} {k0_NoTable k1_NoTable k2_NoTable k3_NoTable k5_NoTable : Option Value}
    (l_NoTable : K.lookup c_NoTable = some (excClassObj nm_NoTable q_NoTable c_NoTable N_NoTable bs_NoTable [.ref c_LoftError, .type "ValueError", .type "Exception", .type "BaseException", .type "object"] true sn_NoTable sub_NoTable ab_NoTable col_NoTable dd_NoTable k0_NoTable k1_NoTable k2_NoTable k3_NoTable k5_NoTable "ValueError.__new__"))
    (s_NoTable : PySem.W.findIn K (.ref c_NoTable) "__setattr__" = some (some (.builtin "object.__setattr__")))
    (e_NoTable : PySem.W.subIn K (.ref c_NoTable) (.type "BaseException") = some true)
    (t_NoTable : PySem.W.typeIn K (.ref c_NoTable) = some (.type "type"))
    (p_NoTable : PySem.W.keepIn K (.ref c_NoTable) = true)
    (i_NoTable_ : PySem.W.findIn K (.ref c_NoTable) "__init__" = some (some (.ref i_NoTable)))
    (j_NoTable : PySem.W.typeIn K (.ref i_NoTable) = some (.type "function"))
    (f_NoTable_at : PySem.W.findIn K (.ref c_NoTable) "at" = some none)
    {io_NoTable ik_NoTable id_NoTable ip_NoTable ic_NoTable it_NoTable : Value} {iod_NoTable ia_NoTable : Option Addr} {is_NoTable : Array (Option Value)}
    (g_NoTable : K.lookup i_NoTable = some ⟨io_NoTable, iod_NoTable, .func (PySem.W.fnOf "__init__" "NoTable.__init__" (defArgs s_ini_NoTable) (defBody s_ini_NoTable) (defScope s_ini_NoTable) .none ik_NoTable id_NoTable ip_NoTable ia_NoTable ic_NoTable it_NoTable), is_NoTable⟩)
    (h_NoTable_ : PySem.W.codeIn K ic_NoTable "NoTable.__init__" = true)
    (m_NoTable_ : PySem.W.keepIn K (.ref i_NoTable) = true)
    : ∃ fd : FuncData, (∀ (s : Shared) (u : Value), BindsTo s fd ⟨[u], []⟩ [("_law_script", u)]) ∧ ∀ base : Heap, K.In base → base.Ns mainGlobals mg → FnOk l.prog w K mg base (L2N.CX l.prog w) 16 fa fd ["_law_script"] (spF K mg 1 [] f_law148) := by
  have e := hfa.symm.trans (PySem.W.mg_of X G a31)
  cases e
  have B : Bn mg := ⟨PySem.W.mg_none_of X G z_len, PySem.W.mg_none_of X G z_range, PySem.W.mg_none_of X G z_abs, PySem.W.mg_none_of X G z_max, PySem.W.mg_none_of X G z_min, PySem.W.mg_none_of X G z_int, PySem.W.mg_none_of X G z_str, PySem.W.mg_none_of X G z_tuple, PySem.W.mg_none_of X G z_list, PySem.W.mg_none_of X G z_all, PySem.W.mg_none_of X G z_any, PySem.W.mg_none_of X G z_isinstance, PySem.W.mg_none_of X G z_divmod, PySem.W.mg_none_of X G z_sum, PySem.W.mg_none_of X G z_zip, PySem.W.mg_none_of X G z_enumerate, PySem.W.mg_none_of X G z_reversed, PySem.W.mg_none_of X G z_sorted, PySem.W.mg_none_of X G z_dict, PySem.W.mg_none_of X G z_set, PySem.W.mg_none_of X G z_bool⟩
  have c_BYTES : Cst K mg "BYTES" (.int 256) := cst_int (PySem.W.mg_of X G qa_BYTES)
  have c_OTHER_PARTS : DCst K w mg "OTHER_PARTS" [("look", (.str "ct")), ("mark", (.str "m"))] := ⟨q_OTHER_PARTS, _, _, PySem.W.mg_of X G qa_OTHER_PARTS, ⟨ql_OTHER_PARTS, qk_OTHER_PARTS, qs_OTHER_PARTS⟩, qe_OTHER_PARTS⟩
  have c_PARTS : DCst K w mg "PARTS" [("put", (.str "cb")), ("copy", (.str "cc")), ("add", (.str "cc")), ("addc", (.str "cc")), ("and", (.str "cc")), ("or", (.str "cc")), ("left", (.str "c")), ("right", (.str "c"))] := ⟨q_PARTS, _, _, PySem.W.mg_of X G qa_PARTS, ⟨ql_PARTS, qk_PARTS, qs_PARTS⟩, qe_PARTS⟩
  have c_MOST_TABLES : Cst K mg "MOST_TABLES" (.int 16) := cst_int (PySem.W.mg_of X G qa_MOST_TABLES)
  have c_MOST_ROWS : Cst K mg "MOST_ROWS" (.int 9000) := cst_int (PySem.W.mg_of X G qa_MOST_ROWS)
  have c_MINUS_HALF : Cst K mg "MINUS_HALF" (.int 13) := cst_int (PySem.W.mg_of X G qa_MINUS_HALF)
  have c_PLUS_HALF : Cst K mg "PLUS_HALF" (.int 12) := cst_int (PySem.W.mg_of X G qa_PLUS_HALF)
  have c_ZONE_HALF : Cst K mg "ZONE_HALF" (.int 15) := cst_int (PySem.W.mg_of X G qa_ZONE_HALF)
  have c_ALL_CELLS : Cst K mg "ALL_CELLS" (.int 256) := cst_int (PySem.W.mg_of X G qa_ALL_CELLS)
  have c_DEEDS : Cst K mg "DEEDS" (.tup [(.str "sum"), (.str "difference"), (.str "compare")]) := cst_tup (PySem.W.mg_of X G qa_DEEDS) ql_DEEDS qe_DEEDS qz_DEEDS
  have c_KINDS : Cst K mg "KINDS" (.tup [(.str "packed"), (.str "spread")]) := cst_tup (PySem.W.mg_of X G qa_KINDS) ql_KINDS qe_KINDS qz_KINDS
  have F0 := fun_mk (st := s_lmixed) l0 c0 k0
  have b0 := F0.binds (ps := ["_law_cell_here", "_law_k", "_law_salt"]) fun _ _ _ _ _ _ us hl => match us, hl with | [_, _, _], _ => rfl
  have F1 := fun_mk (st := s_ldraws) l1 c1 k1
  have b1 := F1.binds (ps := ["_law_cell_here", "_law_salt", "_law_widths"]) fun _ _ _ _ _ _ us hl => match us, hl with | [_, _, _], _ => rfl
  have F2 := fun_mk (st := s_lown_tables2) l2 c2 k2
  have b2 := F2.binds (ps := ["_law_deed", "_law_kind"]) fun _ _ _ _ _ _ us hl => match us, hl with | [_, _], _ => rfl
  have F3 := fun_mk (st := s_lown_rows2) l3 c3 k3
  have b3 := F3.binds (ps := ["_law_deed"]) fun _ _ _ _ _ _ us hl => match us, hl with | [_], _ => rfl
  have F4 := fun_mk (st := s_lrun) l4 c4 k4
  have b4 := F4.binds (ps := ["_law_program", "_law_cells", "_law_mark"]) fun _ _ _ _ _ _ us hl => match us, hl with | [_, _, _], _ => rfl
  have F5 := fun_mk (st := s_lpair_right) l5 c5 k5
  have b5 := F5.binds (ps := ["_law_deed", "_law_kind", "_law_program", "_law_one", "_law_other"]) fun _ _ _ _ _ _ us hl => match us, hl with | [_, _, _, _, _], _ => rfl
  have F6 := fun_mk (st := s_lright8) l6 c6 k6
  have b6 := F6.binds (ps := ["_law_deed", "_law_kind", "_law_program"]) fun _ _ _ _ _ _ us hl => match us, hl with | [_, _, _], _ => rfl
  have F7 := fun_mk (st := s_lcell) l7 c7 k7
  have b7 := F7.binds (ps := ["_law_script", "_law_k"]) fun _ _ _ _ _ _ us hl => match us, hl with | [_, _], _ => rfl
  have F8 := fun_mk (st := s_lspoilt6) l8 c8 k8
  have b8 := F8.binds (ps := ["_law_tables", "_law_rows", "_law_way", "_law_at", "_law_to", "_law_byte", "_law_row"]) fun _ _ _ _ _ _ us hl => match us, hl with | [_, _, _, _, _, _, _], _ => rfl
  have F9 := fun_mk (st := s_pis_table) l9 c9 k9
  have b9 := F9.binds (ps := ["numbers"]) fun _ _ _ _ _ _ us hl => match us, hl with | [_], _ => rfl
  have F10 := fun_mk (st := s_pparts_due) l10 c10 k10
  have b10 := F10.binds (ps := ["word"]) fun _ _ _ _ _ _ us hl => match us, hl with | [_], _ => rfl
  have F11 := fun_mk (st := s_pis_row) l11 c11 k11
  have b11 := F11.binds (ps := ["row", "cells", "tables"]) fun _ _ _ _ _ _ us hl => match us, hl with | [_, _, _], _ => rfl
  have F12 := fun_mk (st := s_phold_program) l12 c12 k12
  have b12 := F12.binds (ps := ["program", "cells"]) fun _ _ _ _ _ _ us hl => match us, hl with | [_, _], _ => rfl
  have F13 := fun_mk (st := s_pshift_step) l13 c13 k13
  have b13 := F13.binds (ps := ["word", "cells", "one", "mark"]) fun _ _ _ _ _ _ us hl => match us, hl with | [_, _, _, _], _ => rfl
  have F14 := fun_mk (st := s_psum_step) l14 c14 k14
  have b14 := F14.binds (ps := ["word", "cells", "one", "other", "mark"]) fun _ _ _ _ _ _ us hl => match us, hl with | [_, _, _, _, _], _ => rfl
  have F15 := fun_mk (st := s_pstep) l15 c15 k15
  have b15 := F15.binds (ps := ["tables", "row", "cells", "mark"]) fun _ _ _ _ _ _ us hl => match us, hl with | [_, _, _, _], _ => rfl
  have F16 := fun_mk (st := s_pwork) l16 c16 k16
  have b16 := F16.binds (ps := ["program", "cells", "mark"]) fun _ _ _ _ _ _ us hl => match us, hl with | [_, _, _], _ => rfl
  have F17 := fun_mk (st := s_ppower) l17 c17 k17
  have b17 := F17.binds (ps := ["base", "many"]) fun _ _ _ _ _ _ us hl => match us, hl with | [_, _], _ => rfl
  have F18 := fun_mk (st := s_pleast_of) l18 c18 k18
  have b18 := F18.binds (ps := ["form"]) fun _ _ _ _ _ _ us hl => match us, hl with | [_], _ => rfl
  have F19 := fun_mk (st := s_pfolded) l19 c19 k19
  have b19 := F19.binds (ps := ["form", "number"]) fun _ _ _ _ _ _ us hl => match us, hl with | [_, _], _ => rfl
  have F20 := fun_mk (st := s_pfigures_of) l20 c20 k20
  have b20 := F20.binds (ps := ["number", "many"]) fun _ _ _ _ _ _ us hl => match us, hl with | [_, _], _ => rfl
  have F21 := fun_mk (st := s_psign_half) l21 c21 k21
  have b21 := F21.binds (ps := ["number"]) fun _ _ _ _ _ _ us hl => match us, hl with | [_], _ => rfl
  have F22 := fun_mk (st := s_phalves_of) l22 c22 k22
  have b22 := F22.binds (ps := ["form"]) fun _ _ _ _ _ _ us hl => match us, hl with | [_], _ => rfl
  have F23 := fun_mk (st := s_pkept_halves) l23 c23 k23
  have b23 := F23.binds (ps := ["form", "number"]) fun _ _ _ _ _ _ us hl => match us, hl with | [_, _], _ => rfl
  have F24 := fun_mk (st := s_pmost_of) l24 c24 k24
  have b24 := F24.binds (ps := ["form"]) fun _ _ _ _ _ _ us hl => match us, hl with | [_], _ => rfl
  have F25 := fun_mk (st := s_pfits) l25 c25 k25
  have b25 := F25.binds (ps := ["form", "number"]) fun _ _ _ _ _ _ us hl => match us, hl with | [_, _], _ => rfl
  have F26 := fun_mk (st := s_pkept) l26 c26 k26
  have b26 := F26.binds (ps := ["form", "number"]) fun _ _ _ _ _ _ us hl => match us, hl with | [_, _], _ => rfl
  have F27 := fun_mk (st := s_pdue_of) l27 c27 k27
  have b27 := F27.binds (ps := ["deed", "form", "one", "other"]) fun _ _ _ _ _ _ us hl => match us, hl with | [_, _, _, _], _ => rfl
  have F28 := fun_mk (st := s_pdoes_pair) l28 c28 k28
  have b28 := F28.binds (ps := ["deed", "form", "program", "one", "other"]) fun _ _ _ _ _ _ us hl => match us, hl with | [_, _, _, _, _], _ => rfl
  have F29 := fun_mk (st := s_pdoes) l29 c29 k29
  have b29 := F29.binds (ps := ["deed", "kind", "program"]) fun _ _ _ _ _ _ us hl => match us, hl with | [_, _, _], _ => rfl
  have F30 := fun_mk (st := s_lsome_row) l30 c30 k30
  have b30 := F30.binds (ps := ["_law_cell_here", "_law_salt", "_law_cells", "_law_tables"]) fun _ _ _ _ _ _ us hl => match us, hl with | [_, _, _, _], _ => rfl
  have F31 := fun_mk (st := s_law148) l31 c31 k31
  have b31 := F31.binds (ps := ["_law_script"]) fun _ _ _ _ _ _ us hl => match us, hl with | [_], _ => rfl
  refine ⟨PySem.W.fnOf "law" "law" (defArgs s_law148) (defBody s_law148) (defScope s_law148) .none kV31 dc31 pm31 an31 cd31 ct31, fun s v => .of_eq rfl, fun base _ _ => ?_⟩
  have B_LoftError : Bas K mg "LoftError" := ⟨c_LoftError, PySem.W.mg_of X G n_LoftError, b1_LoftError, b2_LoftError, b3_LoftError⟩
  have FI_NoDeed := fun_mk (st := s_ini_NoDeed) g_NoDeed h_NoDeed_ m_NoDeed_
  have bI_NoDeed := FI_NoDeed.binds (ps := ["self", "deed"]) fun _ _ _ _ _ _ us hl => match us, hl with | [_, _], _ => rfl
  have FI_NoFit := fun_mk (st := s_ini_NoFit) g_NoFit h_NoFit_ m_NoFit_
  have bI_NoFit := FI_NoFit.binds (ps := ["self", "number"]) fun _ _ _ _ _ _ us hl => match us, hl with | [_, _], _ => rfl
  have FI_NoRow := fun_mk (st := s_ini_NoRow) g_NoRow h_NoRow_ m_NoRow_
  have bI_NoRow := FI_NoRow.binds (ps := ["self", "at"]) fun _ _ _ _ _ _ us hl => match us, hl with | [_, _], _ => rfl
  have FI_NoShape := fun_mk (st := s_ini_NoShape) g_NoShape h_NoShape_ m_NoShape_
  have bI_NoShape := FI_NoShape.binds (ps := ["self", "part"]) fun _ _ _ _ _ _ us hl => match us, hl with | [_, _], _ => rfl
  have FI_NoTable := fun_mk (st := s_ini_NoTable) g_NoTable h_NoTable_ m_NoTable_
  have bI_NoTable := FI_NoTable.binds (ps := ["self", "at"]) fun _ _ _ _ _ _ us hl => match us, hl with | [_, _], _ => rfl
  have xcl1_NoTable_at : Cl1 l.prog w K mg base "NoTable" "at" := ⟨_, _, _, _, owX_mk (PySem.W.mg_of X G n_NoTable) l_NoTable rfl s_NoTable e_NoTable t_NoTable p_NoTable i_NoTable_ j_NoTable, f_NoTable_at, ini_NoTable FI_NoTable B_LoftError, bI_NoTable⟩
  have xcl1_NoRow_at : Cl1 l.prog w K mg base "NoRow" "at" := ⟨_, _, _, _, owX_mk (PySem.W.mg_of X G n_NoRow) l_NoRow rfl s_NoRow e_NoRow t_NoRow p_NoRow i_NoRow_ j_NoRow, f_NoRow_at, ini_NoRow FI_NoRow B_LoftError, bI_NoRow⟩
  have xcl1_NoFit_number : Cl1 l.prog w K mg base "NoFit" "number" := ⟨_, _, _, _, owX_mk (PySem.W.mg_of X G n_NoFit) l_NoFit rfl s_NoFit e_NoFit t_NoFit p_NoFit i_NoFit_ j_NoFit, f_NoFit_number, ini_NoFit FI_NoFit B_LoftError, bI_NoFit⟩
  have xcl1_NoDeed_deed : Cl1 l.prog w K mg base "NoDeed" "deed" := ⟨_, _, _, _, owX_mk (PySem.W.mg_of X G n_NoDeed) l_NoDeed rfl s_NoDeed e_NoDeed t_NoDeed p_NoDeed i_NoDeed_ j_NoDeed, f_NoDeed_deed, ini_NoDeed FI_NoDeed B_LoftError, bI_NoDeed⟩
  have xcl1_NoShape_part : Cl1 l.prog w K mg base "NoShape" "part" := ⟨_, _, _, _, owX_mk (PySem.W.mg_of X G n_NoShape) l_NoShape rfl s_NoShape e_NoShape t_NoShape p_NoShape i_NoShape_ j_NoShape, f_NoShape_part, ini_NoShape FI_NoShape B_LoftError, bI_NoShape⟩
  have h_lmixed : Fd l.prog w K mg base "_law_mixed" 2 ["_law_cell_here", "_law_k", "_law_salt"] [] f_lmixed := ⟨_, _, ok_lmixed F0 B    , PySem.W.mg_of X G a0, k0, b0⟩
  have h_ldraws : Fd l.prog w K mg base "_law_draws" 4 ["_law_cell_here", "_law_salt", "_law_widths"] [] f_ldraws := ⟨_, _, ok_ldraws F1 B h_lmixed   , PySem.W.mg_of X G a1, k1, b1⟩
  have h_lown_tables2 : Fd l.prog w K mg base "_law_own_tables" 2 ["_law_deed", "_law_kind"] [] f_lown_tables2 := ⟨_, _, ok_lown_tables2 F2 B    , PySem.W.mg_of X G a2, k2, b2⟩
  have h_lown_rows2 : Fd l.prog w K mg base "_law_own_rows" 2 ["_law_deed"] [] f_lown_rows2 := ⟨_, _, ok_lown_rows2 F3 B    , PySem.W.mg_of X G a3, k3, b3⟩
  have h_lrun : Fd l.prog w K mg base "_law_run" 2 ["_law_program", "_law_cells", "_law_mark"] [] f_lrun := ⟨_, _, ok_lrun F4 B    , PySem.W.mg_of X G a4, k4, b4⟩
  have h_lpair_right : Fd l.prog w K mg base "_law_pair_right" 4 ["_law_deed", "_law_kind", "_law_program", "_law_one", "_law_other"] [] f_lpair_right := ⟨_, _, ok_lpair_right F5 B h_lrun   , PySem.W.mg_of X G a5, k5, b5⟩
  have h_lright8 : Fd l.prog w K mg base "_law_right" 6 ["_law_deed", "_law_kind", "_law_program"] [] f_lright8 := ⟨_, _, ok_lright8 F6 B h_lpair_right   , PySem.W.mg_of X G a6, k6, b6⟩
  have h_lcell : Fd l.prog w K mg base "_law_cell" 2 ["_law_script", "_law_k"] [] f_lcell := ⟨_, _, ok_lcell F7 B    , PySem.W.mg_of X G a7, k7, b7⟩
  have h_lspoilt6 : Fd l.prog w K mg base "_law_spoilt" 2 ["_law_tables", "_law_rows", "_law_way", "_law_at", "_law_to", "_law_byte", "_law_row"] [0, 1] f_lspoilt6 := ⟨_, _, ok_lspoilt6 F8 B    , PySem.W.mg_of X G a8, k8, b8⟩
  have h_pis_table : Fd l.prog w K mg base "is_table" 2 ["numbers"] [] f_pis_table := ⟨_, _, ok_pis_table F9 B    c_BYTES, PySem.W.mg_of X G a9, k9, b9⟩
  have h_pparts_due : Fd l.prog w K mg base "parts_due" 2 ["word"] [] f_pparts_due := ⟨_, _, ok_pparts_due F10 B    c_OTHER_PARTS c_PARTS, PySem.W.mg_of X G a10, k10, b10⟩
  have h_pis_row : Fd l.prog w K mg base "is_row" 4 ["row", "cells", "tables"] [] f_pis_row := ⟨_, _, ok_pis_row F11 B h_pparts_due   c_BYTES, PySem.W.mg_of X G a11, k11, b11⟩
  have h_phold_program : Fd l.prog w K mg base "hold_program" 6 ["program", "cells"] [] f_phold_program := ⟨_, _, ok_phold_program F12 B h_pis_table h_pis_row  xcl1_NoTable_at xcl1_NoRow_at c_MOST_TABLES c_MOST_ROWS, PySem.W.mg_of X G a12, k12, b12⟩
  have h_pshift_step : Fd l.prog w K mg base "shift_step" 2 ["word", "cells", "one", "mark"] [1] f_pshift_step := ⟨_, _, ok_pshift_step F13 B    c_BYTES, PySem.W.mg_of X G a13, k13, b13⟩
  have h_psum_step : Fd l.prog w K mg base "sum_step" 2 ["word", "cells", "one", "other", "mark"] [1] f_psum_step := ⟨_, _, ok_psum_step F14 B    c_BYTES, PySem.W.mg_of X G a14, k14, b14⟩
  have h_pstep : Fd l.prog w K mg base "step" 4 ["tables", "row", "cells", "mark"] [2] f_pstep := ⟨_, _, ok_pstep F15 B h_pshift_step h_psum_step   , PySem.W.mg_of X G a15, k15, b15⟩
  have h_pwork : Fd l.prog w K mg base "work" 6 ["program", "cells", "mark"] [] f_pwork := ⟨_, _, ok_pwork F16 B h_pstep   , PySem.W.mg_of X G a16, k16, b16⟩
  have h_ppower : Fd l.prog w K mg base "power" 2 ["base", "many"] [] f_ppower := ⟨_, _, ok_ppower F17 B    , PySem.W.mg_of X G a17, k17, b17⟩
  have h_pleast_of : Fd l.prog w K mg base "least_of" 4 ["form"] [] f_pleast_of := ⟨_, _, ok_pleast_of F18 B h_ppower   , PySem.W.mg_of X G a18, k18, b18⟩
  have h_pfolded : Fd l.prog w K mg base "folded" 6 ["form", "number"] [] f_pfolded := ⟨_, _, ok_pfolded F19 B h_ppower h_pleast_of   , PySem.W.mg_of X G a19, k19, b19⟩
  have h_pfigures_of : Fd l.prog w K mg base "figures_of" 2 ["number", "many"] [] f_pfigures_of := ⟨_, _, ok_pfigures_of F20 B    , PySem.W.mg_of X G a20, k20, b20⟩
  have h_psign_half : Fd l.prog w K mg base "sign_half" 2 ["number"] [] f_psign_half := ⟨_, _, ok_psign_half F21 B    c_MINUS_HALF c_PLUS_HALF, PySem.W.mg_of X G a21, k21, b21⟩
  have h_phalves_of : Fd l.prog w K mg base "halves_of" 2 ["form"] [] f_phalves_of := ⟨_, _, ok_phalves_of F22 B    , PySem.W.mg_of X G a22, k22, b22⟩
  have h_pkept_halves : Fd l.prog w K mg base "kept_halves" 4 ["form", "number"] [] f_pkept_halves := ⟨_, _, ok_pkept_halves F23 B h_ppower h_pfigures_of h_psign_half h_phalves_of   c_ZONE_HALF, PySem.W.mg_of X G a23, k23, b23⟩
  have h_pmost_of : Fd l.prog w K mg base "most_of" 4 ["form"] [] f_pmost_of := ⟨_, _, ok_pmost_of F24 B h_ppower   , PySem.W.mg_of X G a24, k24, b24⟩
  have h_pfits : Fd l.prog w K mg base "fits" 6 ["form", "number"] [] f_pfits := ⟨_, _, ok_pfits F25 B h_pleast_of h_pmost_of   , PySem.W.mg_of X G a25, k25, b25⟩
  have h_pkept : Fd l.prog w K mg base "kept" 8 ["form", "number"] [] f_pkept := ⟨_, _, ok_pkept F26 B h_pfits h_pkept_halves  xcl1_NoFit_number , PySem.W.mg_of X G a26, k26, b26⟩
  have h_pdue_of : Fd l.prog w K mg base "due_of" 10 ["deed", "form", "one", "other"] [] f_pdue_of := ⟨_, _, ok_pdue_of F27 B h_pfolded h_pkept   , PySem.W.mg_of X G a27, k27, b27⟩
  have h_pdoes_pair : Fd l.prog w K mg base "does_pair" 12 ["deed", "form", "program", "one", "other"] [] f_pdoes_pair := ⟨_, _, ok_pdoes_pair F28 B h_pkept h_pwork h_pdue_of   c_ALL_CELLS, PySem.W.mg_of X G a28, k28, b28⟩
  have h_pdoes : Fd l.prog w K mg base "does" 14 ["deed", "kind", "program"] [] f_pdoes := ⟨_, _, ok_pdoes F29 B h_phold_program h_pdoes_pair  xcl1_NoDeed_deed xcl1_NoShape_part c_DEEDS c_KINDS c_ALL_CELLS, PySem.W.mg_of X G a29, k29, b29⟩
  have h_lsome_row : Fd l.prog w K mg base "_law_some_row" 6 ["_law_cell_here", "_law_salt", "_law_cells", "_law_tables"] [] f_lsome_row := ⟨_, _, ok_lsome_row F30 B h_ldraws   , PySem.W.mg_of X G a30, k30, b30⟩
  exact ok_law148 F31 B h_ldraws h_lcell h_lown_tables2 h_lown_rows2 h_lspoilt6 h_lsome_row h_lright8 h_pdoes   
end Tm
open PySem PySem.W PyProof.Rows in
set_option maxRecDepth 100000 in
set_option maxHeartbeats 0 in
theorem PySem.Challenge.cw_tensloft_k72_programs_looked_at_holds : PySem.Challenge.rw_tensloft_k72_programs_looked_at.Holds := by
  w_on; o_law; k_head; (case hw => w_witness2)
  k_fill
  refine Tm.walk_law (l := PySem.Challenge.rw_tensloft_k72_programs_looked_at) (f := Tm.f_law148) (x := "_law_script") (k := 16) rfl rfl ⟨rfl, by decide, by decide⟩ (fun w h Y => PySem.W.kIn_of Y) Tm.law_true ?F
  case F =>
    intro w mg fa h KX G hmg
    refine' Tm.all_mk KX G hmg ?a0 ?l0 ?c0 ?k0 ?a1 ?l1 ?c1 ?k1 ?a2 ?l2 ?c2 ?k2 ?a3 ?l3 ?c3 ?k3 ?a4 ?l4 ?c4 ?k4 ?a5 ?l5 ?c5 ?k5 ?a6 ?l6 ?c6 ?k6 ?a7 ?l7 ?c7 ?k7 ?a8 ?l8 ?c8 ?k8 ?a9 ?l9 ?c9 ?k9 ?a10 ?l10 ?c10 ?k10 ?a11 ?l11 ?c11 ?k11 ?a12 ?l12 ?c12 ?k12 ?a13 ?l13 ?c13 ?k13 ?a14 ?l14 ?c14 ?k14 ?a15 ?l15 ?c15 ?k15 ?a16 ?l16 ?c16 ?k16 ?a17 ?l17 ?c17 ?k17 ?a18 ?l18 ?c18 ?k18 ?a19 ?l19 ?c19 ?k19 ?a20 ?l20 ?c20 ?k20 ?a21 ?l21 ?c21 ?k21 ?a22 ?l22 ?c22 ?k22 ?a23 ?l23 ?c23 ?k23 ?a24 ?l24 ?c24 ?k24 ?a25 ?l25 ?c25 ?k25 ?a26 ?l26 ?c26 ?k26 ?a27 ?l27 ?c27 ?k27 ?a28 ?l28 ?c28 ?k28 ?a29 ?l29 ?c29 ?k29 ?a30 ?l30 ?c30 ?k30 ?a31 ?l31 ?c31 ?k31 ?z_len ?z_range ?z_abs ?z_max ?z_min ?z_int ?z_str ?z_tuple ?z_list ?z_all ?z_any ?z_isinstance ?z_divmod ?z_sum ?z_zip ?z_enumerate ?z_reversed ?z_sorted ?z_dict ?z_set ?z_bool ?qa_BYTES ?qa_OTHER_PARTS ?ql_OTHER_PARTS ?qk_OTHER_PARTS ?qs_OTHER_PARTS ?qe_OTHER_PARTS ?qa_PARTS ?ql_PARTS ?qk_PARTS ?qs_PARTS ?qe_PARTS ?qa_MOST_TABLES ?qa_MOST_ROWS ?qa_MINUS_HALF ?qa_PLUS_HALF ?qa_ZONE_HALF ?qa_ALL_CELLS ?qa_DEEDS ?ql_DEEDS ?qe_DEEDS ?qz_DEEDS ?qa_KINDS ?ql_KINDS ?qe_KINDS ?qz_KINDS ?n_LoftError ?n_NoDeed ?n_NoFit ?n_NoRow ?n_NoShape ?n_NoTable ?b1_LoftError ?b2_LoftError ?b3_LoftError ?l_NoDeed ?s_NoDeed ?e_NoDeed ?t_NoDeed ?p_NoDeed ?i_NoDeed_ ?j_NoDeed ?f_NoDeed_deed ?g_NoDeed ?h_NoDeed_ ?m_NoDeed_ ?l_NoFit ?s_NoFit ?e_NoFit ?t_NoFit ?p_NoFit ?i_NoFit_ ?j_NoFit ?f_NoFit_number ?g_NoFit ?h_NoFit_ ?m_NoFit_ ?l_NoRow ?s_NoRow ?e_NoRow ?t_NoRow ?p_NoRow ?i_NoRow_ ?j_NoRow ?f_NoRow_at ?g_NoRow ?h_NoRow_ ?m_NoRow_ ?l_NoShape ?s_NoShape ?e_NoShape ?t_NoShape ?p_NoShape ?i_NoShape_ ?j_NoShape ?f_NoShape_part ?g_NoShape ?h_NoShape_ ?m_NoShape_ ?l_NoTable ?s_NoTable ?e_NoTable ?t_NoTable ?p_NoTable ?i_NoTable_ ?j_NoTable ?f_NoTable_at ?g_NoTable ?h_NoTable_ ?m_NoTable_
    (case a0 => k_is)
    (case l0 => k_is)
    (case c0 => k_is)
    (case k0 => k_is)
    (case a1 => k_is)
    (case l1 => k_is)
    (case c1 => k_is)
    (case k1 => k_is)
    (case a2 => k_is)
    (case l2 => k_is)
    (case c2 => k_is)
    (case k2 => k_is)
    (case a3 => k_is)
    (case l3 => k_is)
    (case c3 => k_is)
    (case k3 => k_is)
    (case a4 => k_is)
    (case l4 => k_is)
    (case c4 => k_is)
    (case k4 => k_is)
    (case a5 => k_is)
    (case l5 => k_is)
    (case c5 => k_is)
    (case k5 => k_is)
    (case a6 => k_is)
    (case l6 => k_is)
    (case c6 => k_is)
    (case k6 => k_is)
    (case a7 => k_is)
    (case l7 => k_is)
    (case c7 => k_is)
    (case k7 => k_is)
    (case a8 => k_is)
    (case l8 => k_is)
    (case c8 => k_is)
    (case k8 => k_is)
    (case a9 => k_is)
    (case l9 => k_is)
    (case c9 => k_is)
    (case k9 => k_is)
    (case a10 => k_is)
    (case l10 => k_is)
    (case c10 => k_is)
    (case k10 => k_is)
    (case a11 => k_is)
    (case l11 => k_is)
    (case c11 => k_is)
    (case k11 => k_is)
    (case a12 => k_is)
    (case l12 => k_is)
    (case c12 => k_is)
    (case k12 => k_is)
    (case a13 => k_is)
    (case l13 => k_is)
    (case c13 => k_is)
    (case k13 => k_is)
    (case a14 => k_is)
    (case l14 => k_is)
    (case c14 => k_is)
    (case k14 => k_is)
    (case a15 => k_is)
    (case l15 => k_is)
    (case c15 => k_is)
    (case k15 => k_is)
    (case a16 => k_is)
    (case l16 => k_is)
    (case c16 => k_is)
    (case k16 => k_is)
    (case a17 => k_is)
    (case l17 => k_is)
    (case c17 => k_is)
    (case k17 => k_is)
    (case a18 => k_is)
    (case l18 => k_is)
    (case c18 => k_is)
    (case k18 => k_is)
    (case a19 => k_is)
    (case l19 => k_is)
    (case c19 => k_is)
    (case k19 => k_is)
    (case a20 => k_is)
    (case l20 => k_is)
    (case c20 => k_is)
    (case k20 => k_is)
    (case a21 => k_is)
    (case l21 => k_is)
    (case c21 => k_is)
    (case k21 => k_is)
    (case a22 => k_is)
    (case l22 => k_is)
    (case c22 => k_is)
    (case k22 => k_is)
    (case a23 => k_is)
    (case l23 => k_is)
    (case c23 => k_is)
    (case k23 => k_is)
    (case a24 => k_is)
    (case l24 => k_is)
    (case c24 => k_is)
    (case k24 => k_is)
    (case a25 => k_is)
    (case l25 => k_is)
    (case c25 => k_is)
    (case k25 => k_is)
    (case a26 => k_is)
    (case l26 => k_is)
    (case c26 => k_is)
    (case k26 => k_is)
    (case a27 => k_is)
    (case l27 => k_is)
    (case c27 => k_is)
    (case k27 => k_is)
    (case a28 => k_is)
    (case l28 => k_is)
    (case c28 => k_is)
    (case k28 => k_is)
    (case a29 => k_is)
    (case l29 => k_is)
    (case c29 => k_is)
    (case k29 => k_is)
    (case a30 => k_is)
    (case l30 => k_is)
    (case c30 => k_is)
    (case k30 => k_is)
    (case a31 => k_is)
    (case l31 => k_is)
    (case c31 => k_is)
    (case k31 => k_is)
    (case z_len => k_is)
    (case z_range => k_is)
    (case z_abs => k_is)
    (case z_max => k_is)
    (case z_min => k_is)
    (case z_int => k_is)
    (case z_str => k_is)
    (case z_tuple => k_is)
    (case z_list => k_is)
    (case z_all => k_is)
    (case z_any => k_is)
    (case z_isinstance => k_is)
    (case z_divmod => k_is)
    (case z_sum => k_is)
    (case z_zip => k_is)
    (case z_enumerate => k_is)
    (case z_reversed => k_is)
    (case z_sorted => k_is)
    (case z_dict => k_is)
    (case z_set => k_is)
    (case z_bool => k_is)
    (case qa_BYTES => k_is)
    (case qa_OTHER_PARTS => k_is)
    (case ql_OTHER_PARTS => k_is)
    (case qa_PARTS => k_is)
    (case ql_PARTS => k_is)
    (case qa_MOST_TABLES => k_is)
    (case qa_MOST_ROWS => k_is)
    (case qa_MINUS_HALF => k_is)
    (case qa_PLUS_HALF => k_is)
    (case qa_ZONE_HALF => k_is)
    (case qa_ALL_CELLS => k_is)
    (case qa_DEEDS => k_is)
    (case ql_DEEDS => k_is)
    (case qa_KINDS => k_is)
    (case ql_KINDS => k_is)
    (case n_LoftError => k_is)
    (case n_NoDeed => k_is)
    (case n_NoFit => k_is)
    (case n_NoRow => k_is)
    (case n_NoShape => k_is)
    (case n_NoTable => k_is)
    (case b1_LoftError => k_is)
    (case b2_LoftError => k_is)
    (case b3_LoftError => k_is)
    (case l_NoDeed => k_is)
    (case s_NoDeed => k_is)
    (case e_NoDeed => k_is)
    (case t_NoDeed => k_is)
    (case p_NoDeed => k_is)
    (case i_NoDeed_ => k_is)
    (case j_NoDeed => k_is)
    (case f_NoDeed_deed => k_is)
    (case g_NoDeed => k_is)
    (case h_NoDeed_ => k_is)
    (case m_NoDeed_ => k_is)
    (case l_NoFit => k_is)
    (case s_NoFit => k_is)
    (case e_NoFit => k_is)
    (case t_NoFit => k_is)
    (case p_NoFit => k_is)
    (case i_NoFit_ => k_is)
    (case j_NoFit => k_is)
    (case f_NoFit_number => k_is)
    (case g_NoFit => k_is)
    (case h_NoFit_ => k_is)
    (case m_NoFit_ => k_is)
    (case l_NoRow => k_is)
    (case s_NoRow => k_is)
    (case e_NoRow => k_is)
    (case t_NoRow => k_is)
    (case p_NoRow => k_is)
    (case i_NoRow_ => k_is)
    (case j_NoRow => k_is)
    (case f_NoRow_at => k_is)
    (case g_NoRow => k_is)
    (case h_NoRow_ => k_is)
    (case m_NoRow_ => k_is)
    (case l_NoShape => k_is)
    (case s_NoShape => k_is)
    (case e_NoShape => k_is)
    (case t_NoShape => k_is)
    (case p_NoShape => k_is)
    (case i_NoShape_ => k_is)
    (case j_NoShape => k_is)
    (case f_NoShape_part => k_is)
    (case g_NoShape => k_is)
    (case h_NoShape_ => k_is)
    (case m_NoShape_ => k_is)
    (case l_NoTable => k_is)
    (case s_NoTable => k_is)
    (case e_NoTable => k_is)
    (case t_NoTable => k_is)
    (case p_NoTable => k_is)
    (case i_NoTable_ => k_is)
    (case j_NoTable => k_is)
    (case f_NoTable_at => k_is)
    (case g_NoTable => k_is)
    (case h_NoTable_ => k_is)
    (case m_NoTable_ => k_is)
    (case qk_OTHER_PARTS => exact ⟨⟨_, _, rfl, rfl⟩, ⟨_, _, rfl, rfl⟩, True.intro⟩)
    (case qe_OTHER_PARTS => first | kernel_rfl | exact rfl | decide +kernel +revert)
    (case qk_PARTS => exact ⟨⟨_, _, rfl, rfl⟩, ⟨_, _, rfl, rfl⟩, ⟨_, _, rfl, rfl⟩, ⟨_, _, rfl, rfl⟩, ⟨_, _, rfl, rfl⟩, ⟨_, _, rfl, rfl⟩, ⟨_, _, rfl, rfl⟩, ⟨_, _, rfl, rfl⟩, True.intro⟩)
    (case qe_PARTS => first | kernel_rfl | exact rfl | decide +kernel +revert)
    (case qs_OTHER_PARTS => decide +kernel)
    (case qs_PARTS => decide +kernel)
    (case qe_DEEDS => decide +kernel)
    (case qz_DEEDS => decide +kernel)
    (case qe_KINDS => decide +kernel)
    (case qz_KINDS => decide +kernel)
