import PyProof.Rows.All
import Wide.All
import OpenK.AllK
import Wide.FinOn
import PyProof.EqAt
import PyProof.EqKinds
import PyProof.TupleCall
import HandS.ForMost
import HandS.Exc
import HandS.TryOnly
import HandS.ExcOwn
import HandS.WordsExc
import HandS.Defaults
import HandS.Lambda
import HandS.Conv
import HandS.Codes
import HandS.IsInst
import HandS.TupAny
import HandS.TupMul
import HandS.Zip
import HandS.Flow
import HandS.Style
import HandS.Small
import HandS.RaiseMore
import HandS.ExcIs
import HandS.Walk
import HandS.Deep
import HandS.Head0
import HandS.Head1
import HandS.Head2
import HandS.HeadEnd
import HandS.HeadHook1
import HandS.HeadHook2
import KE.GoesNew
import PyProof.EnumMake
import HandS.Steps
import HandS.NoneIn
import HandS.TupLen
import HandS.WordsDict
import KE.GoesMore
import HandS.EndBits
import HandS.EndTab
import HandS.HeadHook3
import HandS.HeadHook4
import KE.GoesEnum
import HandS.DictComp
import HandS.Strs
import HandS.SortInts
import HandS.TryMany
import KE.SortData
import PySem.Challenge.RW_schoolyear_k42_whole_bells_minute_by_min
set_option autoImplicit false
set_option Elab.async false
set_option linter.all false
set_option maxRecDepth 100000
set_option maxHeartbeats 4000000
namespace VL
open PySem PySem.Spec PyProof.Rows L2
abbrev Kf := PySem.W.Frag
abbrev Dt := PyData
/-! ### results -/
structure Ec where
  cls : Str
  arg : Dt
inductive R (α : Type) where
  | ok (a : α)
  | exc (x : Ec)
  | bad
def R.bind {α β : Type} (r : R α) (f : α → R β) : R β := match r with
  | .ok a => f a
  | .exc x => .exc x
  | .bad => .bad
abbrev En := List Dt
inductive RS where
  | nx (e : En)
  | rt (d : Dt) (e : En)
  | bk (e : En)
  | ct (e : En)
  | exc (x : Ec)
  | bad
/-! ### heaps -/
def nt : HO → Bool
  | .tbl _ => false
  | _ => true
def Sb (S H : Hp) : Prop := ∀ a o, S a = some o → nt o = true → H a = some o
theorem Sb.refl (H : Hp) : Sb H H := fun _ _ h _ => h
theorem Sb.trans {A B C : Hp} (h : Sb A B) (k : Sb B C) : Sb A C := fun a o e n => k a o (h a o e n) n
structure Ex (H H' : Hp) : Prop where
  ke : Sb H H'
  tb : ∀ a ps, H a = some (.tbl ps) → ∃ ps', H' a = some (.tbl ps')
theorem Ex.refl (H : Hp) : Ex H H := ⟨Sb.refl H, fun _ ps e => ⟨ps, e⟩⟩
theorem Ex.trans {A B C : Hp} (h : Ex A B) (k : Ex B C) : Ex A C := ⟨h.ke.trans k.ke, fun a ps e => by
  obtain ⟨p1, e1⟩ := h.tb a ps e
  exact k.tb a p1 e1⟩
theorem Ex.has {H H' : Hp} (h : Ex H H') {a : Addr} {o : HO} (e : H a = some o) : ∃ o', H' a = some o' := by
  cases q : nt o with
  | true => exact ⟨o, h.ke a o e q⟩
  | false =>
    cases o with
    | tbl ps =>
      obtain ⟨p, e1⟩ := h.tb a ps e
      exact ⟨_, e1⟩
    | _ => cases q
theorem Ex.none {H H' : Hp} (h : Ex H H') {a : Addr} (e : H' a = none) : H a = none := by
  cases q : H a with
  | none => rfl
  | some o =>
    obtain ⟨o', e1⟩ := h.has q
    rw [e] at e1
    cases e1
theorem Ex.of_same {H H' : Hp} (h : Same H H') : Ex H H' := ⟨fun a o e _ => h a o e, fun a ps e => ⟨ps, h a _ e⟩⟩
def isTp : HO → Bool
  | .tup _ => true
  | _ => false
def isS (S : Hp) (a : Addr) : Bool := match S a with
  | some u => nt u
  | none => false
def nw (S H H' : Hp) : Hp := fun a => match H' a with
  | some o => if (nt o && (isTp o || (isS S a || (H a).isNone))) = true then some o else none
  | none => none
theorem isS_of {S : Hp} {a : Addr} (h : isS S a = true) : ∃ u, S a = some u ∧ nt u = true := by
  unfold isS at h
  cases q : S a with
  | none => rw [q] at h; cases h
  | some u => rw [q] at h; exact ⟨u, rfl, h⟩
theorem isS_mk {S : Hp} {a : Addr} {o : HO} (e : S a = some o) (n : nt o = true) : isS S a = true := by
  unfold isS; rw [e]; exact n
theorem isTp_of {o : HO} (h : isTp o = true) : ∃ xs, o = .tup xs := by
  cases o with
  | tup xs => exact ⟨xs, rfl⟩
  | _ => cases h
theorem nw_of {S H H' : Hp} {a : Addr} {o : HO} (e : nw S H H' a = some o) : H' a = some o ∧ nt o = true ∧ ((∃ xs, o = .tup xs) ∨ (∃ u, S a = some u ∧ nt u = true) ∨ H a = none) := by
  unfold nw at e
  cases q : H' a with
  | none => rw [q] at e; cases e
  | some u =>
    rw [q] at e
    dsimp only at e
    split at e
    · rename_i h
      cases e
      simp only [Bool.and_eq_true, Bool.or_eq_true] at h
      refine ⟨rfl, h.1, ?_⟩
      rcases h.2 with h | h | h
      · exact .inl (isTp_of h)
      · exact .inr (.inl (isS_of h))
      · exact .inr (.inr (by simpa using h))
    · cases e
theorem nw_mk {S H H' : Hp} {a : Addr} {o : HO} (e : H' a = some o) (n : nt o = true) (h : (∃ xs, o = .tup xs) ∨ (∃ u, S a = some u ∧ nt u = true) ∨ H a = none) : nw S H H' a = some o := by
  unfold nw
  rw [e]
  dsimp only
  rw [if_pos]
  simp only [Bool.and_eq_true, Bool.or_eq_true]
  refine ⟨n, ?_⟩
  rcases h with ⟨xs, rfl⟩ | ⟨u, e1, e2⟩ | h
  · exact .inl rfl
  · exact .inr (.inl (isS_mk e1 e2))
  · exact .inr (.inr (by rw [h]; rfl))
theorem nw_none {S H H' : Hp} {a : Addr} {o o' : HO} (e : H a = some o) (e' : H' a = some o') (n : isTp o' = false) (hs : S a = none) : nw S H H' a = none := by
  cases q : nw S H H' a with
  | none => rfl
  | some u =>
    obtain ⟨h1, _, h2⟩ := nw_of q
    rw [e'] at h1
    cases h1
    rcases h2 with ⟨xs, rfl⟩ | ⟨u, e1, _⟩ | h
    · cases n
    · rw [hs] at e1; cases e1
    · rw [e] at h; cases h
theorem nw_sub (S H H' : Hp) : Sb (nw S H H') H' := fun a o e _ => (nw_of e).1
theorem nw_s {S H H' : Hp} (hs : Sb S H') : Sb S (nw S H H') := fun a o e n => nw_mk (hs a o e n) n (.inr (.inl ⟨o, e, n⟩))
theorem nw_mono {S S' H H' : Hp} (h : Sb S S') : Sb (nw S H H') (nw S' H H') := fun a o e n => by
  obtain ⟨e1, e2, e3⟩ := nw_of e
  refine nw_mk e1 e2 ?_
  rcases e3 with h1 | ⟨u, h1, h2⟩ | h1
  · exact .inl h1
  · exact .inr (.inl ⟨u, h a u h1 h2, h2⟩)
  · exact .inr (.inr h1)
theorem nw_nw {S H H1 H2 : Hp} (x1 : Ex H H1) (x2 : Ex H1 H2) : Sb (nw (nw S H H1) H1 H2) (nw S H H2) := fun a o e n => by
  obtain ⟨e1, e2, e3⟩ := nw_of e
  refine nw_mk e1 e2 ?_
  rcases e3 with h1 | ⟨u, h1, h2⟩ | h1
  · exact .inl h1
  · obtain ⟨f1, _, f3⟩ := nw_of h1
    have : u = o := by
      have z := x2.ke a u f1 h2
      rw [e1] at z
      exact (Option.some.inj z).symm
    subst this
    exact f3
  · exact .inr (.inr (x1.none h1))
theorem nw_ext {S H H1 H2 : Hp} (x2 : Ex H1 H2) : Sb (nw S H H1) (nw S H H2) := fun a o e n => by
  obtain ⟨e1, e2, e3⟩ := nw_of e
  exact nw_mk (x2.ke a o e1 e2) e2 e3
/-- S without the address a -/
def rm (S : Hp) (a : Addr) : Hp := fun b => if b = a then none else S b
theorem rm_same {S : Hp} {a : Addr} : rm S a a = none := by unfold rm; rw [if_pos rfl]
theorem rm_ne {S : Hp} {a b : Addr} (h : b ≠ a) : rm S a b = S b := by unfold rm; rw [if_neg h]
theorem rm_sub (S : Hp) (a : Addr) : Sb (rm S a) S := fun b o e _ => by
  unfold rm at e
  split at e
  · cases e
  · exact e
theorem rm_mono {S S' : Hp} {a : Addr} (h : Sb S S') : Sb (rm S a) (rm S' a) := fun b o e n => by
  unfold rm at e ⊢
  split at e
  · cases e
  · rename_i hb
    rw [if_neg hb]
    exact h b o e n
/-! ### a value stands for a datum, read in a part S of the heap -/
def keyD : Key → Dt
  | .inl i => .int i
  | .inr x => .str x
mutual
def RV (K : Kf) (S : Hp) : Dt → V → Prop
  | .none, v => v = .non
  | .bool b, v => v = .bl b
  | .int i, v => v = .int i
  | .str s, v => v = .str s
  | .list ds, v => ∃ a xs, v = .ref a ∧ S a = some (.lst xs) ∧ RVs K S ds xs
  | .tuple ds, v => ∃ a xs, v = .ref a ∧ SqT K S a xs ∧ RVs K S ds xs
  | .dict kvs, v => ∃ a, v = .ref a ∧ ((∃ ks, S a = some (.dK ks) ∧ RKs K S kvs ks) ∨ (∃ ks, S a = some (.dT ks) ∧ kvs ≠ [] ∧ RTs K S kvs ks))
def RVs (K : Kf) (S : Hp) : List Dt → List V → Prop
  | [], xs => xs = []
  | d :: ds, xs => ∃ y ys, xs = y :: ys ∧ RV K S d y ∧ RVs K S ds ys
def RKs (K : Kf) (S : Hp) : List (Dt × Dt) → List (Key × V) → Prop
  | [], ks => ks = []
  | (k, d) :: r, ks => ∃ q y s, ks = (q, y) :: s ∧ k = keyD q ∧ RV K S d y ∧ RKs K S r s
def RTs (K : Kf) (S : Hp) : List (Dt × Dt) → List (List Key × V) → Prop
  | [], ks => ks = []
  | (k, d) :: r, ks => ∃ q y s, ks = (q, y) :: s ∧ k = .tuple (q.map keyD) ∧ RV K S d y ∧ RTs K S r s
end
section
variable {K : Kf} {S S' : Hp}
theorem Rd.sb (h : Sb S S') {a : Addr} {u : HO} (n : nt u = true) (r : Rd S a u) : Rd S' a u := by
  rcases r with r | ⟨o, r⟩
  · exact .inl (h _ _ r n)
  · exact .inr ⟨o, h _ _ r rfl⟩
theorem SqL.sb (h : Sb S S') {a : Addr} {xs : List V} (r : SqL K S a xs) : SqL K S' a xs := by
  rcases r with r | r
  · exact .inl (Rd.sb h rfl r)
  · exact .inr r
theorem SqT.sb (h : Sb S S') {a : Addr} {xs : List V} (r : SqT K S a xs) : SqT K S' a xs := by
  rcases r with r | r
  · exact .inl (Rd.sb h rfl r)
  · exact .inr r
mutual
theorem RV.sb (h : Sb S S') : ∀ (d : Dt) (v : V), RV K S d v → RV K S' d v
  | .none, v, r => r
  | .bool b, v, r => r
  | .int i, v, r => r
  | .str s, v, r => r
  | .list ds, v, r => by
    obtain ⟨a, xs, e, h1, h2⟩ := r
    exact ⟨a, xs, e, h _ _ h1 rfl, RVs.sb h ds xs h2⟩
  | .tuple ds, v, r => by
    obtain ⟨a, xs, e, h1, h2⟩ := r
    exact ⟨a, xs, e, SqT.sb h h1, RVs.sb h ds xs h2⟩
  | .dict kvs, v, r => by
    obtain ⟨a, e, r⟩ := r
    rcases r with ⟨ks, h1, h2⟩ | ⟨ks, h1, h0, h2⟩
    · exact ⟨a, e, .inl ⟨ks, h _ _ h1 rfl, RKs.sb h kvs ks h2⟩⟩
    · exact ⟨a, e, .inr ⟨ks, h _ _ h1 rfl, h0, RTs.sb h kvs ks h2⟩⟩
theorem RVs.sb (h : Sb S S') : ∀ (ds : List Dt) (xs : List V), RVs K S ds xs → RVs K S' ds xs
  | [], xs, r => r
  | d :: ds, xs, r => by
    obtain ⟨y, ys, e, h1, h2⟩ := r
    exact ⟨y, ys, e, RV.sb h d y h1, RVs.sb h ds ys h2⟩
theorem RKs.sb (h : Sb S S') : ∀ (ds : List (Dt × Dt)) (xs : List (Key × V)), RKs K S ds xs → RKs K S' ds xs
  | [], xs, r => r
  | (k, d) :: ds, xs, r => by
    obtain ⟨q, y, ys, e, e2, h1, h2⟩ := r
    exact ⟨q, y, ys, e, e2, RV.sb h d y h1, RKs.sb h ds ys h2⟩
theorem RTs.sb (h : Sb S S') : ∀ (ds : List (Dt × Dt)) (xs : List (List Key × V)), RTs K S ds xs → RTs K S' ds xs
  | [], xs, r => r
  | (k, d) :: ds, xs, r => by
    obtain ⟨q, y, ys, e, e2, h1, h2⟩ := r
    exact ⟨q, y, ys, e, e2, RV.sb h d y h1, RTs.sb h ds ys h2⟩
end
theorem RVs.len : ∀ {ds : List Dt} {xs : List V}, RVs K S ds xs → xs.length = ds.length
  | [], xs, r => by cases r; rfl
  | d :: ds, xs, r => by
    obtain ⟨y, ys, e, _, h2⟩ := r
    subst e
    simp [RVs.len h2]
theorem RVs.get : ∀ {ds : List Dt} {xs : List V} {i : Nat} {d : Dt}, RVs K S ds xs → ds[i]? = some d → ∃ v, xs[i]? = some v ∧ RV K S d v
  | [], xs, i, d, r, h => by simp at h
  | d0 :: ds, xs, 0, d, r, h => by
    obtain ⟨y, ys, rfl, h1, _⟩ := r
    simp at h
    subst h
    exact ⟨y, rfl, h1⟩
  | d0 :: ds, xs, i + 1, d, r, h => by
    obtain ⟨y, ys, rfl, _, h2⟩ := r
    obtain ⟨v, e, q⟩ := RVs.get (i := i) h2 (by simpa using h)
    exact ⟨v, by simpa using e, q⟩
theorem RVs.app : ∀ {ds es : List Dt} {xs ys : List V}, RVs K S ds xs → RVs K S es ys → RVs K S (ds ++ es) (xs ++ ys)
  | [], es, xs, ys, r, q => by cases r; exact q
  | d :: ds, es, xs, ys, r, q => by
    obtain ⟨y, zs, rfl, h1, h2⟩ := r
    exact ⟨y, zs ++ ys, rfl, h1, RVs.app h2 q⟩
theorem RVs.one {d : Dt} {v : V} (h : RV K S d v) : RVs K S [d] [v] := ⟨v, [], rfl, h, rfl⟩
theorem RVs.take : ∀ (n : Nat) {ds : List Dt} {xs : List V}, RVs K S ds xs → RVs K S (ds.take n) (xs.take n)
  | 0, ds, xs, r => by simp [RVs]
  | n + 1, [], xs, r => by cases r; simp [RVs]
  | n + 1, d :: ds, xs, r => by
    obtain ⟨y, ys, rfl, h1, h2⟩ := r
    exact ⟨y, ys.take n, rfl, h1, RVs.take n h2⟩
theorem RVs.drop : ∀ (n : Nat) {ds : List Dt} {xs : List V}, RVs K S ds xs → RVs K S (ds.drop n) (xs.drop n)
  | 0, ds, xs, r => r
  | n + 1, [], xs, r => by cases r; simp [RVs]
  | n + 1, d :: ds, xs, r => by
    obtain ⟨y, ys, rfl, h1, h2⟩ := r
    exact RVs.drop n h2
theorem RVs.set {d : Dt} {v : V} (h : RV K S d v) : ∀ (n : Nat) {ds : List Dt} {xs : List V}, RVs K S ds xs → RVs K S (ds.set n d) (xs.set n v)
  | n, [], xs, r => by cases r; simp [RVs]
  | 0, d0 :: ds, xs, r => by
    obtain ⟨y, ys, rfl, h1, h2⟩ := r
    exact ⟨v, ys, rfl, h, h2⟩
  | n + 1, d0 :: ds, xs, r => by
    obtain ⟨y, ys, rfl, h1, h2⟩ := r
    exact ⟨y, ys.set n v, rfl, h1, RVs.set h n h2⟩
end
end VL
namespace VL
open PySem PySem.Spec PyProof.Rows L2
/-! ### owned objects, the state -/
def OwnAt (K : Kf) (S H : Hp) : Dt → Addr → Prop
  | .list ds, a => ∃ xs, H a = some (.lst xs) ∧ RVs K S ds xs
  | .dict kvs, a => (∃ ks, H a = some (.dK ks) ∧ RKs K S kvs ks) ∨ (∃ ks, H a = some (.dT ks) ∧ kvs ≠ [] ∧ RTs K S kvs ks)
  | _, _ => False
section
variable {K : Kf} {S S' H H' : Hp} {d : Dt} {a : Addr}
theorem OwnAt.mono (h : OwnAt K S H d a) (s : Sb S S') (e : ∀ o, H a = some o → nt o = true → H' a = some o) : OwnAt K S' H' d a := by
  cases d with
  | list ds =>
    obtain ⟨xs, h1, h2⟩ := h
    exact ⟨xs, e _ h1 rfl, RVs.sb s _ _ h2⟩
  | dict kvs =>
    rcases h with ⟨ks, h1, h2⟩ | ⟨ks, h1, h0, h2⟩
    · exact .inl ⟨ks, e _ h1 rfl, RKs.sb s _ _ h2⟩
    · exact .inr ⟨ks, e _ h1 rfl, h0, RTs.sb s _ _ h2⟩
  | none => exact h.elim
  | bool _ => exact h.elim
  | int _ => exact h.elim
  | str _ => exact h.elim
  | tuple _ => exact h.elim
theorem OwnAt.obj (h : OwnAt K S H d a) : ∃ o, H a = some o ∧ isTp o = false ∧ nt o = true ∧ Mut (some o) := by
  cases d with
  | list ds =>
    obtain ⟨xs, h1, h2⟩ := h
    exact ⟨_, h1, rfl, rfl, trivial⟩
  | dict kvs =>
    rcases h with ⟨ks, h1, h2⟩ | ⟨ks, h1, h2⟩
    · exact ⟨_, h1, rfl, rfl, trivial⟩
    · exact ⟨_, h1, rfl, rfl, trivial⟩
  | none => exact h.elim
  | bool _ => exact h.elim
  | int _ => exact h.elim
  | str _ => exact h.elim
  | tuple _ => exact h.elim
theorem OwnAt.rv (h : OwnAt K S H d a) (s : Sb S S') (e : ∀ o, H a = some o → nt o = true → S' a = some o) : RV K S' d (.ref a) := by
  cases d with
  | list ds =>
    obtain ⟨xs, h1, h2⟩ := h
    exact ⟨a, xs, rfl, e _ h1 rfl, RVs.sb s _ _ h2⟩
  | dict kvs =>
    rcases h with ⟨ks, h1, h2⟩ | ⟨ks, h1, h0, h2⟩
    · exact ⟨a, rfl, .inl ⟨ks, e _ h1 rfl, RKs.sb s _ _ h2⟩⟩
    · exact ⟨a, rfl, .inr ⟨ks, e _ h1 rfl, h0, RTs.sb s _ _ h2⟩⟩
  | none => exact h.elim
  | bool _ => exact h.elim
  | int _ => exact h.elim
  | str _ => exact h.elim
  | tuple _ => exact h.elim
end
/-- a def's entry: the heap, the part of it in which the parameters are read, the object that it may change -/
structure Cn where
  H0 : Hp
  Z0 : Hp
  io : Option Addr
abbrev Tbs := List (Addr × Str)
structure WfG (Tb : Tbs) (C : Cn) (Z H : Hp) : Prop where
  zh : Sb Z H
  zz : Sb C.Z0 Z
  fr : ∀ a o, Z a = some o → nt o = true → C.Z0 a = some o ∨ C.H0 a = none ∨ ∃ xs, o = .tup xs
  ke : ∀ a o, C.H0 a = some o → nt o = true → C.io ≠ some a → H a = some o
  kt : ∀ a ps, C.H0 a = some (.tbl ps) → ∃ ps', H a = some (.tbl ps')
  ih : ∀ a, C.io = some a → C.H0 a ≠ none ∧ Z a = none ∧ ∃ o, H a = some o ∧ isTp o = false ∧ nt o = true
  tb : LamX.Tabs Tb H
inductive SM where
  | dead | z | own | io | ptr (a : Addr)
  deriving DecidableEq
def SlotOk (K : Kf) (C : Cn) (Z H : Hp) : SM → Dt → Option V → Prop
  | .dead, _, _ => True
  | .z, d, ov => ∃ v, ov = some v ∧ RV K Z d v
  | .own, d, ov => ∃ a, ov = some (.ref a) ∧ OwnAt K Z H d a ∧ C.H0 a = none ∧ Z a = none
  | .io, d, ov => ∃ a, ov = some (.ref a) ∧ OwnAt K Z H d a ∧ C.io = some a
  | .ptr b, _, ov => ov = some (.ref b)
structure Wf (K : Kf) (Tb : Tbs) (C : Cn) (G : List SM) (Z : Hp) (e : En) (σ : L2.St) (H : Hp) : Prop where
  g : WfG Tb C Z H
  sl : ∀ (i : Nat) (m : SM), G[i]? = some m → ∃ ov, σ[i]? = some ov ∧ SlotOk K C Z H m (e.getD i .none) ov
  ap : ∀ (i j : Nat) (a : Addr), i ≠ j → G[i]? = some SM.own → G[j]? = some SM.own → σ[i]? = some (some (.ref a)) → σ[j]? ≠ some (some (.ref a))
  le : e.length = G.length
  ls : σ.length = G.length
section
variable {K : Kf} {Tb : Tbs} {C : Cn} {G : List SM} {Z H H' : Hp} {e : En} {σ : L2.St}
theorem WfG.h0 (g : WfG Tb C Z H) {a : Addr} (n : H a = none) : C.H0 a = none := by
  cases q : C.H0 a with
  | none => rfl
  | some o =>
    by_cases hi : C.io = some a
    · obtain ⟨_, _, o', e1, _⟩ := g.ih a hi
      rw [n] at e1
      cases e1
    · cases q2 : nt o with
      | true => rw [g.ke a o q q2 hi] at n; cases n
      | false =>
        cases o with
        | tbl ps =>
          obtain ⟨p, e1⟩ := g.kt a ps q
          rw [n] at e1
          cases e1
        | _ => cases q2
theorem WfG.ext (g : WfG Tb C Z H) (x : Ex H H') (tb : LamX.Tabs Tb H') : WfG Tb C (nw Z H H') H' where
  zh := nw_sub _ _ _
  zz := g.zz.trans (nw_s (g.zh.trans x.ke))
  fr := fun a o e n => by
    obtain ⟨e1, e2, e3⟩ := nw_of e
    rcases e3 with h1 | ⟨u, h1, h2⟩ | h1
    · exact .inr (.inr h1)
    · have : u = o := by
        have z := x.ke a u (g.zh a u h1 h2) h2
        rw [e1] at z
        exact (Option.some.inj z).symm
      subst this
      exact g.fr a u h1 h2
    · exact .inr (.inl (g.h0 h1))
  ke := fun a o e n hi => x.ke a o (g.ke a o e n hi) n
  kt := fun a ps e => by
    obtain ⟨p, e1⟩ := g.kt a ps e
    exact x.tb a p e1
  ih := fun a hi => by
    obtain ⟨h1, h2, o, h3, h4, h5⟩ := g.ih a hi
    have h6 := x.ke a o h3 h5
    exact ⟨h1, nw_none h3 h6 h4 h2, o, h6, h4, h5⟩
  tb := tb
theorem SlotOk.ext {m : SM} {d : Dt} {ov : Option V} (zh : Sb Z H) (h : SlotOk K C Z H m d ov) (x : Ex H H') : SlotOk K C (nw Z H H') H' m d ov := by
  have zs : Sb Z (nw Z H H') := nw_s (zh.trans x.ke)
  cases m with
  | dead => exact trivial
  | z =>
    obtain ⟨v, e, r⟩ := h
    exact ⟨v, e, RV.sb zs _ _ r⟩
  | own =>
    obtain ⟨a, e, r, h1, h2⟩ := h
    obtain ⟨o, e1, e2, e3, _⟩ := r.obj
    exact ⟨a, e, r.mono zs (fun o q n => x.ke a o q n), h1, nw_none e1 (x.ke a o e1 e3) e2 h2⟩
  | ptr b => exact h
  | io =>
    obtain ⟨a, e, r, h1⟩ := h
    exact ⟨a, e, r.mono zs (fun o q n => x.ke a o q n), h1⟩
theorem Wf.ext (w : Wf K Tb C G Z e σ H) (x : Ex H H') (tb : LamX.Tabs Tb H') : Wf K Tb C G (nw Z H H') e σ H' where
  g := w.g.ext x tb
  sl := fun i m hm => by
    obtain ⟨ov, h1, h2⟩ := w.sl i m hm
    exact ⟨ov, h1, h2.ext w.g.zh x⟩
  ap := w.ap
  le := w.le
  ls := w.ls
end
/-! ### readings -/
inductive Fl where
  | z | t | own
  deriving DecidableEq
def Out (K : Kf) (fl : Fl) (Z H H' : Hp) (d : Dt) (v : V) : Prop := match fl with
  | .z => RV K (nw Z H H') d v
  | .t => RV K H' d v
  | .own => ∃ a, v = .ref a ∧ H a = none ∧ OwnAt K (rm (nw Z H H') a) H' d a
section
variable {K : Kf} {Z H H' : Hp} {d : Dt} {v : V} {fl : Fl}
theorem Out.z (h : Out K .own Z H H' d v) : Out K .z Z H H' d v := by
  obtain ⟨a, rfl, h1, h2⟩ := h
  obtain ⟨o, e1, _, e3, _⟩ := h2.obj
  exact h2.rv (rm_sub _ _) fun o q n => nw_mk q n (.inr (.inr h1))
theorem Out.rv (h : Out K fl Z H H' d v) : RV K H' d v := by
  cases fl with
  | z => exact RV.sb (nw_sub _ _ _) _ _ h
  | t => exact h
  | own => exact RV.sb (nw_sub _ _ _) _ _ (Out.z h)
end
/-- how an exception's payload lies -/
def ExcAt (K : Kf) (x : Ec) (dx : Option Addr) (H : Hp) : Prop := x.arg = .none ∧ dx = none
/-- every list and tuple is short enough -/
def Fit (H : Hp) : Prop := ∀ a xs, (Rd H a (.lst xs) ∨ Rd H a (.tup xs)) → xs.length ≤ sizeLine
theorem fit_of {P : Program} {w : World} {H : Hp} {h : Heap} (x : HOk P w H h) : Fit H := fun a xs r => by
  rcases r with r | r
  · exact (Rd.ok r x).1
  · exact (Rd.ok r x).1
theorem PE.fit {X : Cx} {e : Expr} {t : TE} (h : PE X e t) : PE X e (fun σ H Q => Fit H → t σ H (fun v H' => Fit H' → Q v H')) := by
  refine ⟨fun pins s σ H Q I hq => ?_⟩
  refine thn (h.run pins s σ H _ I (hq (fit_of I.hok))) fun u s' ⟨v, H', I', r, q⟩ => ⟨v, H', I', r, q (fit_of I'.hok)⟩
theorem PE.weak {X : Cx} {e : Expr} {t t' : TE} (h : PE X e t) (i : ∀ σ H Q, Fit H → t' σ H Q → t σ H Q) : PE X e t' :=
  ⟨fun pins s σ H Q I hq => h.run pins s σ H Q I (i σ H Q (fit_of I.hok) hq)⟩
theorem PT.fit {X : Cx} {e : Expr} {t : TT} (h : PT X e t) : PT X e (fun σ H Q => Fit H → t σ H (fun v H' => Fit H' → Q v H')) := by
  refine ⟨fun pins s σ H Q I hq => ?_⟩
  refine thn (h.run pins s σ H _ I (hq (fit_of I.hok))) fun u s' ⟨H', I', q⟩ => ⟨H', I', q (fit_of I'.hok)⟩
theorem PT.weak {X : Cx} {e : Expr} {t t' : TT} (h : PT X e t) (i : ∀ σ H Q, Fit H → t' σ H Q → t σ H Q) : PT X e t' :=
  ⟨fun pins s σ H Q I hq => h.run pins s σ H Q I (i σ H Q (fit_of I.hok) hq)⟩
theorem PW.weak {X : Cx} {e : Expr} {t t' : TT} (h : PW X e t) (i : ∀ σ H Q, Fit H → t' σ H Q → t σ H Q) : PW X e t' :=
  ⟨fun wh pins s σ H Q I hq => h.run wh pins s σ H Q I (i σ H Q (fit_of I.hok) hq)⟩
theorem PA.fit {X : Cx} {es : List Expr} {t : TA} (h : PA X es t) : PA X es (fun σ H Q => Fit H → t σ H (fun v H' => Fit H' → Q v H')) := by
  refine ⟨fun pos pins s σ H Q I hq => ?_⟩
  refine thn (h.run pos pins s σ H _ I (hq (fit_of I.hok))) fun u s' ⟨v, H', I', r, q⟩ => ⟨v, H', I', r, q (fit_of I'.hok)⟩
theorem PA.weak {X : Cx} {es : List Expr} {t t' : TA} (h : PA X es t) (i : ∀ σ H Q, Fit H → t' σ H Q → t σ H Q) : PA X es t' :=
  ⟨fun pos pins s σ H Q I hq => h.run pos pins s σ H Q I (i σ H Q (fit_of I.hok) hq)⟩
theorem PS.weak {X : Cx} {st : Stmt} {t t' : TS} (h : PS X st t) (i : ∀ D σ H, Fit H → t' D σ H → t D σ H) : PS X st t' :=
  ⟨fun pins s σ H D I hq => h.run pins s σ H D I (i D σ H (fit_of I.hok) hq)⟩
theorem PSs.weak {X : Cx} {st : List Stmt} {t t' : TS} (h : PSs X st t) (i : ∀ D σ H, Fit H → t' D σ H → t D σ H) : PSs X st t' :=
  ⟨fun pins s σ H D I hq => h.run pins s σ H D I (i D σ H (fit_of I.hok) hq)⟩
/-- what a call that let an exception out says -/
abbrev EXC (K : Kf) (Tb : Tbs) (E : XK) (H : Hp) (x : Ec) : Prop := ∀ dx H', Ex H H' → LamX.Tabs Tb H' → ExcAt K x dx H' → E (.ref (He.ga K x.cls)) dx H'
def tQ (K : Kf) (Tb : Tbs) (C : Cn) (E : XK) (G : List SM) (fl : Fl) (m : En → R Dt) : TE := fun σ H Q =>
  ∃ Z e, Wf K Tb C G Z e σ H ∧ match m e with
    | .ok d => ∀ v H', Ex H H' → LamX.Tabs Tb H' → Out K fl Z H H' d v → Q v H'
    | .exc x => EXC K Tb E H x
    | .bad => False
def tB (K : Kf) (Tb : Tbs) (C : Cn) (E : XK) (G : List SM) (m : En → R Bool) : TT := fun σ H Q =>
  ∃ Z e, Wf K Tb C G Z e σ H ∧ match m e with
    | .ok b => ∀ H', Ex H H' → LamX.Tabs Tb H' → Q b H'
    | .exc x => EXC K Tb E H x
    | .bad => False
/-- lists: z or t -/
def Sel (t : Bool) (Z H H' : Hp) : Hp := match t with
  | true => H'
  | false => nw Z H H'
def Outs (K : Kf) (t : Bool) (Z H H' : Hp) (ds : List Dt) (vs : List V) : Prop := RVs K (Sel t Z H H') ds vs
def tL (K : Kf) (Tb : Tbs) (C : Cn) (E : XK) (G : List SM) (t : Bool) (m : En → R (List Dt)) : TA := fun σ H Q =>
  ∃ Z e, Wf K Tb C G Z e σ H ∧ match m e with
    | .ok ds => ∀ vs H', Ex H H' → LamX.Tabs Tb H' → Outs K t Z H H' ds vs → Q vs H'
    | .exc x => EXC K Tb E H x
    | .bad => False
theorem EXC.of {K : Kf} {Tb : Tbs} {E : XK} {H H1 : Hp} {x : Ec} (h : EXC K Tb E H x) (x1 : Ex H H1) : EXC K Tb E H1 x := fun dx H' x2 t e => h dx H' (x1.trans x2) t e
/-- S is the part of the heap in which a flag's values are read -/
def Fl.t? : Fl → Bool
  | .t => true
  | _ => false
def Fl.on (t : Bool) (f : Fl) : Fl := match t with
  | true => .t
  | false => f
theorem Sel.sub (t : Bool) (Z H H' : Hp) : Sb (Sel t Z H H') H' := by
  cases t with
  | true => exact Sb.refl _
  | false => exact nw_sub _ _ _
theorem Sel.mono {t t' : Bool} (h : t = true → t' = true) (Z H H' : Hp) : Sb (Sel t Z H H') (Sel t' Z H H') := by
  cases t with
  | true => rw [h rfl]; exact Sb.refl _
  | false =>
    cases t' with
    | true => exact nw_sub _ _ _
    | false => exact Sb.refl _
theorem Sel.later {Z H H1 H2 : Hp} (t : Bool) (x2 : Ex H1 H2) : Sb (Sel t Z H H1) (Sel t Z H H2) := by
  cases t with
  | true => exact x2.ke
  | false => exact nw_ext x2
theorem Out.comp {K : Kf} {f0 : Fl} {t : Bool} {Z H H2 H' : Hp} {d : Dt} {v : V} (h : Out K f0 (Sel t Z H H2) H2 H' d v) (x1 : Ex H H2) (x2 : Ex H2 H') : Out K (Fl.on t f0) Z H H' d v := by
  cases t with
  | true => exact h.rv
  | false =>
    cases f0 with
    | z => exact RV.sb (nw_nw x1 x2) _ _ h
    | t => exact h
    | own =>
      obtain ⟨a, e, n, o⟩ := h
      exact ⟨a, e, x1.none n, o.mono (rm_mono (nw_nw x1 x2)) fun _ q _ => q⟩
section
variable {K : Kf} {Z H H1 H' : Hp} {d : Dt} {v : V} {fl : Fl} {ds : List Dt} {vs : List V}
theorem Out.sel (h : Out K fl Z H H' d v) : RV K (Sel fl.t? Z H H') d v := by
  cases fl with
  | z => exact h
  | t => exact h
  | own => exact Out.z h
end
end VL
namespace VL
open PySem PySem.Spec PyProof.Rows L2
abbrev VQ (X : Cx) (Tb : Tbs) (C : Cn) (E : XK) (G : List SM) (fl : Fl) (m : En → R Dt) (e : Expr) : Prop := PE X e (tQ X.K Tb C E G fl m)
abbrev VB (X : Cx) (Tb : Tbs) (C : Cn) (E : XK) (G : List SM) (m : En → R Bool) (e : Expr) : Prop := PT X e (tB X.K Tb C E G m)
abbrev VA (X : Cx) (Tb : Tbs) (C : Cn) (E : XK) (G : List SM) (t : Bool) (m : En → R (List Dt)) (es : List Expr) : Prop := PA X es (tL X.K Tb C E G t m)
section
variable {X : Cx} {Tb : Tbs} {C : Cn} {E : XK} {G : List SM} {fl fa fb f0 : Fl} {a b : Expr} {ma mb : En → R Dt} {pos : Pos}
/-! ### constants, names -/
def qc (d : Dt) : En → R Dt := fun _ => .ok d
def qv (i : Nat) : En → R Dt := fun e => .ok (e.getD i .none)
theorem vq_of {e : Expr} {v : V} {d : Dt} (h : PE X e (tC v)) (r : ∀ H, RV X.K H d v) (hr : ∀ S, RV X.K S d v) : VQ X Tb C E G .z (qc d) e := by
  refine PE.weak h fun σ H Q _ hq => ?_
  obtain ⟨Z, en, w, hm⟩ := hq
  exact hm v H (Ex.refl H) w.g.tb (hr _)
theorem vq_int {i j p} : VQ X Tb C E G .z (qc (.int i)) (.Constant (.int i) j p) := vq_of pe_int (fun _ => rfl) (fun _ => rfl)
theorem vq_bool {i j p} : VQ X Tb C E G .z (qc (.bool i)) (.Constant (.bool i) j p) := vq_of pe_bl (fun _ => rfl) (fun _ => rfl)
theorem vq_none {j p} : VQ X Tb C E G .z (qc .none) (.Constant .none j p) := vq_of pe_non (fun _ => rfl) (fun _ => rfl)
theorem vq_str {i j p} : VQ X Tb C E G .z (qc (.str i)) (.Constant (.str i) j p) := vq_of pe_str (fun _ => rfl) (fun _ => rfl)
theorem vq_gint {x : Str} {i : Int} {p : Pos} (hg : Gl X x) (hm : ∃ t, X.mg x = some (.int i t)) (hd : (x == ("__debug__" : Str)) = false := by decide) : VQ X Tb C E G .z (qc (.int i)) (.Name x p) := by
  obtain ⟨t, hm⟩ := hm
  exact vq_of (v := .int i) (pe_glob hg hm ⟨t, rfl⟩ hd) (fun _ => rfl) (fun _ => rfl)
theorem vq_gstr {x : Str} {i : Str} {p : Pos} (hg : Gl X x) (hm : ∃ t, X.mg x = some (.str i t)) (hd : (x == ("__debug__" : Str)) = false := by decide) : VQ X Tb C E G .z (qc (.str i)) (.Name x p) := by
  obtain ⟨t, hm⟩ := hm
  exact vq_of (v := .str i) (pe_glob hg hm ⟨t, rfl⟩ hd) (fun _ => rfl) (fun _ => rfl)
theorem vq_z (i : Nat) {x : Str} {p : Pos} (hi : G[i]? = some .z := by rfl) (hN : X.N[i]? = some x := by rfl) (hv : Vis X.env.scope x := by first | exact Or.inl rfl | exact Or.inr (Or.inl rfl) | exact Or.inr (Or.inr rfl)) (hd : (x == ("__debug__" : Str)) = false := by decide)
    (hcd : (x == ("__classdict__" : Str)) = false := by decide) : VQ X Tb C E G .z (qv i) (.Name x p) := by
  refine PE.weak (pe_var hN hv hd hcd) fun σ H Q _ hq => ?_
  obtain ⟨Z, en, w, hm⟩ := hq
  obtain ⟨ov, h1, v, e, r⟩ := w.sl i _ hi
  subst e
  exact ⟨v, h1, hm v H (Ex.refl H) w.g.tb (RV.sb (nw_s w.g.zh) _ _ r)⟩
theorem vq_t (i : Nat) {x : Str} {p : Pos} (hi : (G[i]? = some .own ∨ G[i]? = some .io) := by first | exact Or.inl rfl | exact Or.inr rfl) (hN : X.N[i]? = some x := by rfl) (hv : Vis X.env.scope x := by first | exact Or.inl rfl | exact Or.inr (Or.inl rfl) | exact Or.inr (Or.inr rfl)) (hd : (x == ("__debug__" : Str)) = false := by decide)
    (hcd : (x == ("__classdict__" : Str)) = false := by decide) : VQ X Tb C E G .t (qv i) (.Name x p) := by
  refine PE.weak (pe_var hN hv hd hcd) fun σ H Q _ hq => ?_
  obtain ⟨Z, en, w, hm⟩ := hq
  rcases hi with hi | hi
  · obtain ⟨ov, h1, a, e, r, _⟩ := w.sl i _ hi
    subst e
    exact ⟨.ref a, h1, hm _ H (Ex.refl H) w.g.tb (r.rv w.g.zh fun o q _ => q)⟩
  · obtain ⟨ov, h1, a, e, r, _⟩ := w.sl i _ hi
    subst e
    exact ⟨.ref a, h1, hm _ H (Ex.refl H) w.g.tb (r.rv w.g.zh fun o q _ => q)⟩
/-- an own result, frozen -/
theorem vq_fz {e : Expr} {m : En → R Dt} (h : VQ X Tb C E G .own m e) : VQ X Tb C E G .z m e := by
  refine PE.weak h fun σ H Q _ hq => ?_
  obtain ⟨Z, en, w, hm⟩ := hq
  refine ⟨Z, en, w, ?_⟩
  revert hm
  cases m en with
  | ok d => exact fun hm v H' x t o => hm v H' x t o.z
  | exc x => exact fun hm => hm
  | bad => exact fun hm => hm
/-! ### an operation on two values -/
def R.ofO {α : Type} : Option α → R α
  | some a => .ok a
  | none => .bad
def q2 (f : Dt → Dt → Option Dt) (ma mb : En → R Dt) : En → R Dt := fun e => (ma e).bind fun x => (mb e).bind fun y => R.ofO (f x y)
def OpD (K : Kf) (f0 : Fl) (f : Dt → Dt → Option Dt) (r : R2) : Prop := ∀ (S H : Hp) (d1 d2 : Dt) (x y : V) (d : Dt) (Q : VK), Fit H → Sb S H → RV K S d1 x → RV K S d2 y → f d1 d2 = some d →
  (∀ v H', Same H H' → Out K f0 S H H' d v → Q v H') → r x y H Q
theorem two_ok {f : Dt → Dt → Option Dt} {r : R2} {σ : L2.St} {H : Hp} {Q : VK} (hd : OpD X.K f0 f r) (hq : tQ X.K Tb C E G (Fl.on (fa.t? || fb.t?) f0) (q2 f ma mb) σ H Q) :
    tQ X.K Tb C E G fa ma σ H fun x H1 => Fit H1 → tQ X.K Tb C E G fb mb σ H1 fun y H2 => Fit H2 → r x y H2 Q := by
  obtain ⟨Z, en, w, hm⟩ := hq
  refine ⟨Z, en, w, ?_⟩
  unfold q2 at hm
  revert hm
  cases ma en with
  | exc x => exact fun hm => hm
  | bad => exact fun hm => hm
  | ok d1 =>
    intro hm x H1 x1 t1 o1 _
    refine ⟨nw Z H H1, en, w.ext x1 t1, ?_⟩
    revert hm
    show (match (mb en).bind fun y => R.ofO (f d1 y) with
      | .ok d => ∀ v H', Ex H H' → LamX.Tabs Tb H' → Out X.K (Fl.on (fa.t? || fb.t?) f0) Z H H' d v → Q v H'
      | .exc x => EXC X.K Tb E H x
      | .bad => False) → _
    cases mb en with
    | exc x => exact fun hm => EXC.of hm x1
    | bad => exact fun hm => hm
    | ok d2 =>
      show (match R.ofO (f d1 d2) with
        | .ok d => ∀ v H', Ex H H' → LamX.Tabs Tb H' → Out X.K (Fl.on (fa.t? || fb.t?) f0) Z H H' d v → Q v H'
        | .exc x => EXC X.K Tb E H x
        | .bad => False) → _
      cases hf : f d1 d2 with
      | none => exact fun hm => hm.elim
      | some d =>
        intro hm y H2 x2 t2 o2 fit
        have x12 := x1.trans x2
        have r1 : RV X.K (Sel (fa.t? || fb.t?) Z H H2) d1 x := RV.sb ((Sel.mono (fun h => by rw [h]; rfl) Z H H1).trans (Sel.later _ x2)) _ _ o1.sel
        have r2 : RV X.K (Sel (fa.t? || fb.t?) Z H H2) d2 y := by
          have q1 : RV X.K (Sel fb.t? (nw Z H H1) H1 H2) d2 y := o2.sel
          have q2 : Sb (Sel fb.t? (nw Z H H1) H1 H2) (Sel fb.t? Z H H2) := by
            cases fb.t? with
            | true => exact Sb.refl _
            | false => exact nw_nw x1 x2
          exact RV.sb (q2.trans (Sel.mono (fun h => by rw [h]; simp) Z H H2)) _ _ q1
        refine hd _ H2 d1 d2 x y d Q fit (Sel.sub _ Z H H2) r1 r2 hf fun v H' sm o => ?_
        exact hm v H' (x12.trans (Ex.of_same sm)) (t2.ext sm) (o.comp x12 (Ex.of_same sm))
theorem vq_op {op : Operator} {r : R2} {f : Dt → Dt → Option Dt} (ho : OpR X (binaryOp op) r) (hd : OpD X.K f0 f r) (ha : VQ X Tb C E G fa ma a) (hb : VQ X Tb C E G fb mb b) :
    VQ X Tb C E G (Fl.on (fa.t? || fb.t?) f0) (q2 f ma mb) (.BinOp a op b pos) := by
  refine PE.weak (pe_op ho (PE.fit ha) (PE.fit hb)) fun σ H Q fit hq => ?_
  exact fun _ => (two_ok hd hq).imp fun Z hz => hz.imp fun en hw => ⟨hw.1, by
    have h2 := hw.2
    revert h2
    cases ma en with
    | ok d => exact fun h2 v H' x t o f => fun f' => h2 v H' x t o f
    | exc x => exact fun h2 => h2
    | bad => exact fun h2 => h2⟩
end
end VL
namespace VL
open PySem PySem.Spec PyProof.Rows L2
abbrev fitE (t : TE) : TE := fun σ H Q => Fit H → t σ H (fun v H' => Fit H' → Q v H')
abbrev VW (X : Cx) (Tb : Tbs) (C : Cn) (E : XK) (G : List SM) (m : En → R Bool) (e : Expr) : Prop := PW X e (tB X.K Tb C E G m)
section
variable {X : Cx} {Tb : Tbs} {C : Cn} {E : XK} {G : List SM} {fl fa fb f0 : Fl} {a b c : Expr} {rest : List Expr} {ma mb mc : En → R Dt} {na nb nc : En → R Bool} {pos : Pos}
theorem two_w {f : Dt → Dt → Option Dt} {r : R2} {σ : L2.St} {H : Hp} {Q : VK} (hd : OpD X.K f0 f r) (hq : tQ X.K Tb C E G (Fl.on (fa.t? || fb.t?) f0) (q2 f ma mb) σ H Q) :
    tOp r (fitE (tQ X.K Tb C E G fa ma)) (fitE (tQ X.K Tb C E G fb mb)) σ H Q :=
  fun _ => (two_ok hd hq).imp fun Z hz => hz.imp fun en hw => ⟨hw.1, by
    have h2 := hw.2
    revert h2
    cases ma en with
    | ok d => exact fun h2 v H' x t o f => fun f' => h2 v H' x t o f
    | exc x => exact fun h2 => h2
    | bad => exact fun h2 => h2⟩
theorem vq_cmp {op : CmpOp} {r : R2} {f : Dt → Dt → Option Dt} (ho : OpR X (compareOp op) r) (hd : OpD X.K f0 f r) (ha : VQ X Tb C E G fa ma a) (hb : VQ X Tb C E G fb mb b) (hm : behindInMarks op b = false := by rfl) :
    VQ X Tb C E G (Fl.on (fa.t? || fb.t?) f0) (q2 f ma mb) (.Compare a [op] [b] pos) := PE.weak (pe_cmpR ho (PE.fit ha) (PE.fit hb) hm) fun σ H Q fit hq => two_w hd hq
/-- an operation whose answer is a bool, flagged z whatever it reads -/
theorem vq_fl {e : Expr} {m : En → R Dt} {t : Bool} {g : Dt → Bool} (h : VQ X Tb C E G (Fl.on t .z) m e) (hb : ∀ en d, m en = .ok d → (∃ b, d = .bool b) ∨ (∃ i, d = .int i) ∨ d = .none ∨ ∃ s, d = .str s) : VQ X Tb C E G .z m e := by
  refine PE.weak h fun σ H Q _ hq => ?_
  obtain ⟨Z, en, w, hm⟩ := hq
  refine ⟨Z, en, w, ?_⟩
  revert hm
  cases he : m en with
  | ok d =>
    intro hm v H' x tb o
    refine hm v H' x tb ?_
    have o2 := o.rv
    rcases hb en d he with ⟨b, rfl⟩ | ⟨b, rfl⟩ | rfl | ⟨b, rfl⟩ <;> exact o2
  | exc x => exact fun hm => hm
  | bad => exact fun hm => hm
/-- an atom is flagged z -/
def isAtom : Dt → Bool
  | .none | .bool _ | .int _ | .str _ => true
  | _ => false
def qat (m : En → R Dt) : En → R Dt := fun e => (m e).bind fun d => if isAtom d = true then .ok d else .bad
theorem vq_at {e : Expr} {m : En → R Dt} (h : VQ X Tb C E G fl m e) : VQ X Tb C E G .z (qat m) e := by
  refine PE.weak h fun σ H Q _ hq => ?_
  obtain ⟨Z, en, w, hm⟩ := hq
  refine ⟨Z, en, w, ?_⟩
  unfold qat at hm
  revert hm
  cases he : m en with
  | exc x => exact fun hm => hm
  | bad => exact fun hm => hm.elim
  | ok d =>
    cases d with
    | none => exact fun hm v H' x tb o => hm v H' x tb o.rv
    | bool b => exact fun hm v H' x tb o => hm v H' x tb o.rv
    | int b => exact fun hm v H' x tb o => hm v H' x tb o.rv
    | str b => exact fun hm v H' x tb o => hm v H' x tb o.rv
    | list b => exact fun hm => hm.elim
    | tuple b => exact fun hm => hm.elim
    | dict b => exact fun hm => hm.elim
/-! ### tests -/
def bB : Dt → R Bool
  | .bool b => .ok b
  | _ => .bad
def qT (m : En → R Dt) : En → R Bool := fun e => (m e).bind bB
theorem tB_of {t : TE} {σ : L2.St} {H : Hp} {Q : Bool → Hp → Prop} {K : Kf} {m : En → R Dt} (hq : VL.tB K Tb C E G (qT m) σ H Q) : tQ K Tb C E G fl m σ H fun x H1 => ∃ k, x = .bl k ∧ Q k H1 := by
  obtain ⟨Z, en, w, hm⟩ := hq
  refine ⟨Z, en, w, ?_⟩
  unfold qT at hm
  revert hm
  cases he : m en with
  | exc x => exact fun hm => hm
  | bad => exact fun hm => hm.elim
  | ok d =>
    cases d with
    | bool b =>
      intro hm v H' x tb o
      have e : v = .bl b := o.rv
      exact ⟨b, e, hm H' x tb⟩
    | none => exact fun hm => hm.elim
    | int b => exact fun hm => hm.elim
    | str b => exact fun hm => hm.elim
    | list b => exact fun hm => hm.elim
    | tuple b => exact fun hm => hm.elim
    | dict b => exact fun hm => hm.elim
theorem vb_val {e : Expr} {m : En → R Dt} (h : VQ X Tb C E G fl m e) (he : ∀ whole, isTrue e X.env whole = (do let v ← whole; standAt e.pos; holding [v] (truthy v)) := by intro _; rfl) : VB X Tb C E G (qT m) e :=
  PT.weak (pt_val h he) fun σ H Q _ hq => tB_of (t := tC .non) hq
theorem vb_cmp {op : CmpOp} {r : R2} {f : Dt → Dt → Option Dt} (ho : OpR X (compareOp op) r) (hd : OpD X.K f0 f r) (ha : VQ X Tb C E G fa ma a) (hb : VQ X Tb C E G fb mb b) (hm : behindInMarks op b = false := by rfl) :
    VB X Tb C E G (qT (q2 f ma mb)) (.Compare a [op] [b] pos) :=
  PT.weak (pt_cmpR ho (PE.fit ha) (PE.fit hb) hm) fun σ H Q fit hq => two_w hd (tB_of (t := tC .non) hq)
def bAnd (na nb : En → R Bool) : En → R Bool := fun e => (na e).bind fun c => if c = true then nb e else .ok false
def bOr (na nb : En → R Bool) : En → R Bool := fun e => (na e).bind fun c => if c = true then .ok true else nb e
def bNot (na : En → R Bool) : En → R Bool := fun e => (na e).bind fun c => .ok (!c)
theorem tB_and {K : Kf} {σ : L2.St} {H : Hp} {Q : Bool → Hp → Prop} (hq : VL.tB K Tb C E G (bAnd na nb) σ H Q) : tAnd (VL.tB K Tb C E G na) (VL.tB K Tb C E G nb) σ H Q := by
  obtain ⟨Z, en, w, hm⟩ := hq
  refine ⟨Z, en, w, ?_⟩
  unfold bAnd at hm
  revert hm
  cases na en with
  | exc x => exact fun hm => hm
  | bad => exact fun hm => hm.elim
  | ok k =>
    cases k with
    | false => exact fun hm H1 x tb => hm H1 x tb
    | true =>
      intro hm H1 x tb
      refine ⟨_, en, w.ext x tb, ?_⟩
      revert hm
      show (match nb en with
        | .ok b => ∀ H', Ex H H' → LamX.Tabs Tb H' → Q b H'
        | .exc x => EXC K Tb E H x
        | .bad => False) → _
      cases nb en with
      | exc x => exact fun hm => EXC.of hm (by assumption)
      | bad => exact fun hm => hm.elim
      | ok k => exact fun hm H2 x2 tb2 => hm H2 (x.trans x2) tb2
theorem tB_or {K : Kf} {σ : L2.St} {H : Hp} {Q : Bool → Hp → Prop} (hq : VL.tB K Tb C E G (bOr na nb) σ H Q) : tOr (VL.tB K Tb C E G na) (VL.tB K Tb C E G nb) σ H Q := by
  obtain ⟨Z, en, w, hm⟩ := hq
  refine ⟨Z, en, w, ?_⟩
  unfold bOr at hm
  revert hm
  cases na en with
  | exc x => exact fun hm => hm
  | bad => exact fun hm => hm.elim
  | ok k =>
    cases k with
    | true => exact fun hm H1 x tb => hm H1 x tb
    | false =>
      intro hm H1 x tb
      refine ⟨_, en, w.ext x tb, ?_⟩
      revert hm
      show (match nb en with
        | .ok b => ∀ H', Ex H H' → LamX.Tabs Tb H' → Q b H'
        | .exc x => EXC K Tb E H x
        | .bad => False) → _
      cases nb en with
      | exc x => exact fun hm => EXC.of hm (by assumption)
      | bad => exact fun hm => hm.elim
      | ok k => exact fun hm H2 x2 tb2 => hm H2 (x.trans x2) tb2
theorem vw_and1 (h : VB X Tb C E G na a) : VW X Tb C E G na (.BoolOp .And [a] pos) := pw_and1 h
theorem vw_or1 (h : VB X Tb C E G na a) : VW X Tb C E G na (.BoolOp .Or [a] pos) := pw_or1 h
theorem vw_and (h : VB X Tb C E G na a) (h2 : VW X Tb C E G nb (.BoolOp .And (b :: rest) pos)) : VW X Tb C E G (bAnd na nb) (.BoolOp .And (a :: b :: rest) pos) := PW.weak (pw_and h h2) fun σ H Q _ hq => tB_and hq
theorem vw_or (h : VB X Tb C E G na a) (h2 : VW X Tb C E G nb (.BoolOp .Or (b :: rest) pos)) : VW X Tb C E G (bOr na nb) (.BoolOp .Or (a :: b :: rest) pos) := PW.weak (pw_or h h2) fun σ H Q _ hq => tB_or hq
theorem vb_w {e : Expr} (h : VW X Tb C E G na e) : VB X Tb C E G na e := PW.pt h
theorem vb_not (h : VB X Tb C E G na a) : VB X Tb C E G (bNot na) (.UnaryOp .Not a pos) := PT.weak (pt_not h) fun σ H Q _ hq => by
  obtain ⟨Z, en, w, hm⟩ := hq
  refine ⟨Z, en, w, ?_⟩
  unfold bNot at hm
  revert hm
  cases na en with
  | exc x => exact fun hm => hm
  | bad => exact fun hm => hm.elim
  | ok k => exact fun hm => hm
/-! ### and, or, not as values (bools) -/
def qAnd (ma mb : En → R Dt) : En → R Dt := fun e => (ma e).bind fun x => (bB x).bind fun c => if c = true then mb e else .ok (.bool false)
def qOr (ma mb : En → R Dt) : En → R Dt := fun e => (ma e).bind fun x => (bB x).bind fun c => if c = true then .ok (.bool true) else mb e
def qNot (ma : En → R Dt) : En → R Dt := fun e => (ma e).bind fun x => (bB x).bind fun c => .ok (.bool (!c))
theorem vq_one {op : BoolOp} (h : VQ X Tb C E G fl ma a) : VQ X Tb C E G fl ma (.BoolOp op [a] pos) := pe_one h
theorem vq_and (h : VQ X Tb C E G fa ma a) (h2 : VQ X Tb C E G .z mb (.BoolOp .And (b :: rest) pos)) : VQ X Tb C E G .z (qAnd ma mb) (.BoolOp .And (a :: b :: rest) pos) := PE.weak (pe_and h h2) fun σ H Q _ hq => by
  obtain ⟨Z, en, w, hm⟩ := hq
  refine ⟨Z, en, w, ?_⟩
  unfold qAnd at hm
  revert hm
  cases ma en with
  | exc x => exact fun hm => hm
  | bad => exact fun hm => hm.elim
  | ok d =>
    cases d with
    | bool k =>
      cases k with
      | false =>
        intro hm v H1 x tb o
        have e : v = .bl false := o.rv
        exact ⟨false, e, hm _ H1 x tb rfl⟩
      | true =>
        intro hm v H1 x tb o
        have e : v = .bl true := o.rv
        refine ⟨true, e, _, en, w.ext x tb, ?_⟩
        revert hm
        show (match mb en with
          | .ok d => ∀ v H', Ex H H' → LamX.Tabs Tb H' → Out X.K .z Z H H' d v → Q v H'
          | .exc x => EXC X.K Tb E H x
          | .bad => False) → _
        cases mb en with
        | exc x => exact fun hm => EXC.of hm (by assumption)
        | bad => exact fun hm => hm.elim
        | ok d2 => exact fun hm v2 H2 x2 tb2 o2 => hm v2 H2 (x.trans x2) tb2 (RV.sb (nw_nw x x2) _ _ o2)
    | none => exact fun hm => hm.elim
    | int b => exact fun hm => hm.elim
    | str b => exact fun hm => hm.elim
    | list b => exact fun hm => hm.elim
    | tuple b => exact fun hm => hm.elim
    | dict b => exact fun hm => hm.elim
theorem vq_or (h : VQ X Tb C E G fa ma a) (h2 : VQ X Tb C E G .z mb (.BoolOp .Or (b :: rest) pos)) : VQ X Tb C E G .z (qOr ma mb) (.BoolOp .Or (a :: b :: rest) pos) := PE.weak (pe_or h h2) fun σ H Q _ hq => by
  obtain ⟨Z, en, w, hm⟩ := hq
  refine ⟨Z, en, w, ?_⟩
  unfold qOr at hm
  revert hm
  cases ma en with
  | exc x => exact fun hm => hm
  | bad => exact fun hm => hm.elim
  | ok d =>
    cases d with
    | bool k =>
      cases k with
      | true =>
        intro hm v H1 x tb o
        have e : v = .bl true := o.rv
        exact ⟨true, e, hm _ H1 x tb rfl⟩
      | false =>
        intro hm v H1 x tb o
        have e : v = .bl false := o.rv
        refine ⟨false, e, _, en, w.ext x tb, ?_⟩
        revert hm
        show (match mb en with
          | .ok d => ∀ v H', Ex H H' → LamX.Tabs Tb H' → Out X.K .z Z H H' d v → Q v H'
          | .exc x => EXC X.K Tb E H x
          | .bad => False) → _
        cases mb en with
        | exc x => exact fun hm => EXC.of hm (by assumption)
        | bad => exact fun hm => hm.elim
        | ok d2 => exact fun hm v2 H2 x2 tb2 o2 => hm v2 H2 (x.trans x2) tb2 (RV.sb (nw_nw x x2) _ _ o2)
    | none => exact fun hm => hm.elim
    | int b => exact fun hm => hm.elim
    | str b => exact fun hm => hm.elim
    | list b => exact fun hm => hm.elim
    | tuple b => exact fun hm => hm.elim
    | dict b => exact fun hm => hm.elim
theorem vq_not (h : VQ X Tb C E G fa ma a) : VQ X Tb C E G .z (qNot ma) (.UnaryOp .Not a pos) := PE.weak (pe_not h) fun σ H Q _ hq => by
  obtain ⟨Z, en, w, hm⟩ := hq
  refine ⟨Z, en, w, ?_⟩
  unfold qNot at hm
  revert hm
  cases ma en with
  | exc x => exact fun hm => hm
  | bad => exact fun hm => hm.elim
  | ok d =>
    cases d with
    | bool k =>
      intro hm v H1 x tb o
      have e : v = .bl k := o.rv
      exact ⟨k, e, hm _ H1 x tb rfl⟩
    | none => exact fun hm => hm.elim
    | int b => exact fun hm => hm.elim
    | str b => exact fun hm => hm.elim
    | list b => exact fun hm => hm.elim
    | tuple b => exact fun hm => hm.elim
    | dict b => exact fun hm => hm.elim
/-! ### a if c else b -/
def qIf (nc : En → R Bool) (ma mb : En → R Dt) : En → R Dt := fun e => (nc e).bind fun k => if k = true then ma e else mb e
theorem Out.z1 {K : Kf} {Z H H' : Hp} {d : Dt} {v : V} (h : Out K fl Z H H' d v) : Out K (Fl.on fl.t? .z) Z H H' d v := by
  cases fl with
  | z => exact h
  | t => exact h
  | own => exact h.z
theorem vq_if {f : Fl} (hc : VB X Tb C E G nc c) (ha : VQ X Tb C E G f ma a) (hb : VQ X Tb C E G f mb b) : VQ X Tb C E G f (qIf nc ma mb) (.IfExp c a b pos) := PE.weak (pe_ifExp hc ha hb) fun σ H Q _ hq => by
  obtain ⟨Z, en, w, hm⟩ := hq
  refine ⟨Z, en, w, ?_⟩
  unfold qIf at hm
  revert hm
  have key : ∀ {m : En → R Dt} {H1 : Hp}, Ex H H1 → LamX.Tabs Tb H1 → (match m en with
          | .ok d => ∀ v H', Ex H H' → LamX.Tabs Tb H' → Out X.K f Z H H' d v → Q v H'
          | .exc x => EXC X.K Tb E H x
          | .bad => False) → tQ X.K Tb C E G f m σ H1 Q := fun {m H1} x tb hm => by
    refine ⟨_, en, w.ext x tb, ?_⟩
    revert hm
    cases m en with
    | exc x => exact fun hm => EXC.of hm (by assumption)
    | bad => exact fun hm => hm.elim
    | ok d2 =>
      refine fun hm v2 H2 x2 tb2 o2 => hm v2 H2 (x.trans x2) tb2 ?_
      cases f with
      | z => exact RV.sb (nw_nw x x2) _ _ o2
      | t => exact o2
      | own =>
        obtain ⟨a, e, n, o⟩ := o2
        exact ⟨a, e, x.none n, o.mono (rm_mono (nw_nw x x2)) fun _ q _ => q⟩
  cases nc en with
  | exc x => exact fun hm => hm
  | bad => exact fun hm => hm.elim
  | ok k =>
    cases k with
    | true => exact fun hm H1 x tb => key x tb hm
    | false => exact fun hm H1 x tb => key x tb hm
theorem vq_tz {e : Expr} {m : En → R Dt} (h : VQ X Tb C E G .z m e) : VQ X Tb C E G .t m e := by
  refine PE.weak h fun σ H Q _ hq => ?_
  obtain ⟨Z, en, w, hm⟩ := hq
  refine ⟨Z, en, w, ?_⟩
  revert hm
  cases m en with
  | ok d => exact fun hm v H' x t o => hm v H' x t (Out.rv (fl := .z) o)
  | exc x => exact fun hm => hm
  | bad => exact fun hm => hm
/-! ### a < b < c -/
def qCh (f g : Dt → Dt → Option Dt) (ma mb mc : En → R Dt) : En → R Dt := fun e => (ma e).bind fun x => (mb e).bind fun y => (R.ofO (f x y)).bind fun k => (bB k).bind fun k => if k = true then (mc e).bind fun z => R.ofO (g y z) else .ok (.bool false)
end
end VL
namespace VL
open PySem PySem.Spec PyProof.Rows L2
section
variable {X : Cx} {Tb : Tbs} {C : Cn} {E : XK} {G : List SM} {fl fa fb fc f0 : Fl} {a b c : Expr} {rest : List Expr} {ma mb mc : En → R Dt} {na nb nc : En → R Bool} {pos : Pos}
/-! ### a < b < c: the answer a bool -/
def qChB (f g : Dt → Dt → Option Dt) (ma mb mc : En → R Dt) : En → R Dt := fun e => (ma e).bind fun x => (mb e).bind fun y => (R.ofO (f x y)).bind fun k => (bB k).bind fun k => if k = true then (mc e).bind fun z => (R.ofO (g y z)).bind fun k => (bB k).bind fun k => .ok (.bool k) else .ok (.bool false)
theorem bind_ok {α β : Type} {r : R α} {f : α → R β} {b : β} (h : r.bind f = .ok b) : ∃ a, r = .ok a ∧ f a = .ok b := by
  cases r with
  | ok a => exact ⟨a, rfl, h⟩
  | exc x => cases h
  | bad => cases h
theorem ofO_ok {α : Type} {r : Option α} {b : α} (h : R.ofO r = .ok b) : r = some b := by
  cases r with
  | some a => cases h; rfl
  | none => cases h
theorem bB_ok {d : Dt} {b : Bool} (h : bB d = .ok b) : d = .bool b := by
  cases d with
  | bool k => cases h; rfl
  | none => cases h
  | int _ => cases h
  | str _ => cases h
  | list _ => cases h
  | tuple _ => cases h
  | dict _ => cases h
theorem ch_w {f g : Dt → Dt → Option Dt} {r r' : R2} {σ : L2.St} {H : Hp} {Q : VK} {f1 : Fl} (hd : OpD X.K f0 f r) (hd' : OpD X.K f1 g r') (hq : tQ X.K Tb C E G .z (qChB f g ma mb mc) σ H Q) :
    tChain r r' (fitE (tQ X.K Tb C E G fa ma)) (fitE (tQ X.K Tb C E G fb mb)) (fitE (tQ X.K Tb C E G fc mc)) σ H Q := by
  obtain ⟨Z, en, w, hm⟩ := hq
  intro _
  refine ⟨Z, en, w, ?_⟩
  unfold qChB at hm
  revert hm
  cases ma en with
  | exc x => exact fun hm => hm
  | bad => exact fun hm => hm
  | ok d1 =>
    intro hm x H1 x1 t1 o1 _ _
    refine ⟨nw Z H H1, en, w.ext x1 t1, ?_⟩
    revert hm
    dsimp only [R.bind]
    cases mb en with
    | exc x => exact fun hm => EXC.of hm x1
    | bad => exact fun hm => hm
    | ok d2 =>
      dsimp only [R.bind]
      cases hf : f d1 d2 with
      | none => exact fun hm => hm.elim
      | some d =>
        dsimp only [R.ofO]
        intro hm y H2 x2 t2 o2 fit2
        cases d with
        | bool k =>
          refine hd H2 H2 d1 d2 x y _ _ fit2 (Sb.refl _) (RV.sb x2.ke _ _ o1.rv) o2.rv hf fun v H3 sm o => ?_
          have ev : v = .bl k := o.rv
          have x3 := Ex.of_same sm
          have t3 := t2.ext sm
          have x13 := (x1.trans x2).trans x3
          refine ⟨k, ev, ?_⟩
          cases k with
          | false =>
            rw [if_neg (by decide)]
            exact hm _ H3 x13 t3 rfl
          | true =>
            rw [if_pos rfl]
            intro _
            refine ⟨_, en, w.ext x13 t3, ?_⟩
            revert hm
            dsimp only [bB]
            simp only [R.bind, if_true]
            cases mc en with
            | exc x => exact fun hm => EXC.of hm x13
            | bad => exact fun hm => hm
            | ok d3 =>
              try simp only
              cases hg : g d2 d3 with
              | none => exact fun hm => False.elim hm
              | some d =>
                simp only [R.ofO]
                intro hm z H4 x4 t4 o4 fit4
                cases d with
                | bool k2 =>
                  refine hd' H4 H4 d2 d3 y z _ _ fit4 (Sb.refl _) (RV.sb (x3.trans x4).ke _ _ o2.rv) o4.rv hg fun v H5 sm5 o5 => ?_
                  have ev : v = .bl k2 := o5.rv
                  subst ev
                  exact hm _ H5 ((x13.trans x4).trans (Ex.of_same sm5)) (t4.ext sm5) rfl
                | none => exact hm.elim
                | int _ => exact hm.elim
                | str _ => exact hm.elim
                | list _ => exact hm.elim
                | tuple _ => exact hm.elim
                | dict _ => exact hm.elim
        | none => exact hm.elim
        | int _ => exact hm.elim
        | str _ => exact hm.elim
        | list _ => exact hm.elim
        | tuple _ => exact hm.elim
        | dict _ => exact hm.elim
theorem vq_chain {op op' : CmpOp} {r r' : R2} {f g : Dt → Dt → Option Dt} {f1 : Fl} (ho : OpR X (compareOp op) r) (ho' : OpR X (compareOp op') r') (hd : OpD X.K f0 f r) (hd' : OpD X.K f1 g r') (ha : VQ X Tb C E G fa ma a) (hb : VQ X Tb C E G fb mb b) (hc : VQ X Tb C E G fc mc c)
    (hm : lastMarks [op, op'] [b, c] = false := by with_unfolding_all rfl) : VQ X Tb C E G .z (qChB f g ma mb mc) (.Compare a [op, op'] [b, c] pos) :=
  PE.weak (pe_chain ho ho' (PE.fit ha) (PE.fit hb) (PE.fit hc) hm) fun σ H Q _ hq => ch_w hd hd' hq
theorem vb_chain {op op' : CmpOp} {r r' : R2} {f g : Dt → Dt → Option Dt} {f1 : Fl} (ho : OpR X (compareOp op) r) (ho' : OpR X (compareOp op') r') (hd : OpD X.K f0 f r) (hd' : OpD X.K f1 g r') (ha : VQ X Tb C E G fa ma a) (hb : VQ X Tb C E G fb mb b) (hc : VQ X Tb C E G fc mc c)
    (hm : lastMarks [op, op'] [b, c] = false := by with_unfolding_all rfl) : VB X Tb C E G (qT (qChB f g ma mb mc)) (.Compare a [op, op'] [b, c] pos) :=
  PT.weak (pt_chain ho ho' (PE.fit ha) (PE.fit hb) (PE.fit hc) hm) fun σ H Q _ hq => ch_w hd hd' (tB_of (t := tC .non) hq)
/-! ### argument lists -/
def lnil : En → R (List Dt) := fun _ => .ok []
def lcons (m : En → R Dt) (ml : En → R (List Dt)) : En → R (List Dt) := fun e => (m e).bind fun x => (ml e).bind fun xs => .ok (x :: xs)
theorem va_nil : VA X Tb C E G false lnil [] := PA.weak pa_nil fun σ H Q _ hq => by
  obtain ⟨Z, en, w, hm⟩ := hq
  exact hm [] H (Ex.refl H) w.g.tb rfl
theorem va_cons {e : Expr} {es : List Expr} {t : Bool} {m : En → R Dt} {ml : En → R (List Dt)} (ha : VQ X Tb C E G fa m e) (hr : VA X Tb C E G t ml es) (hs : starEach (e :: es) X.env = (false, eval e X.env) :: starEach es X.env := by rfl) :
    VA X Tb C E G (fa.t? || t) (lcons m ml) (e :: es) := PA.weak (pa_cons ha hr hs) fun σ H Q _ hq => by
  obtain ⟨Z, en, w, hm⟩ := hq
  refine ⟨Z, en, w, ?_⟩
  unfold lcons at hm
  revert hm
  cases m en with
  | exc x => exact fun hm => hm
  | bad => exact fun hm => hm
  | ok d =>
    dsimp only [R.bind]
    intro hm v H1 x1 t1 o1
    refine ⟨_, en, w.ext x1 t1, ?_⟩
    revert hm
    cases ml en with
    | exc x => exact fun hm => EXC.of hm x1
    | bad => exact fun hm => hm
    | ok ds =>
      dsimp only [R.bind]
      intro hm vs H2 x2 t2 o2
      refine hm _ H2 (x1.trans x2) t2 ⟨v, vs, rfl, ?_, ?_⟩
      · exact RV.sb ((Sel.mono (fun h => by rw [h]; rfl) Z H H1).trans (Sel.later _ x2)) _ _ o1.sel
      · have q2 : Sb (Sel t (nw Z H H1) H1 H2) (Sel t Z H H2) := by
          cases t with
          | true => exact Sb.refl _
          | false => exact nw_nw x1 x2
        exact RVs.sb (q2.trans (Sel.mono (fun h => by rw [h]; simp) Z H H2)) _ _ o2
/-- a tuple, a list of written items -/
def qtup (ml : En → R (List Dt)) : En → R Dt := fun e => (ml e).bind fun ds => .ok (.tuple ds)
def qlst (ml : En → R (List Dt)) : En → R Dt := fun e => (ml e).bind fun ds => .ok (.list ds)
theorem nw_upd {Z H H1 : Hp} {a : Addr} {o : HO} (n : H1 a = none) (x : Ex H H1) (hn : nt o = true) : nw Z H (upd H1 a o) a = some o := nw_mk upd_same hn (.inr (.inr (x.none n)))
theorem small_len {es : List Expr} {ds : List Dt} (h : ds.length ≤ 1000) : ds.length ≤ sizeLine := Nat.le_trans h (by decide)
theorem vq_tup {es : List Expr} {t : Bool} {ml : En → R (List Dt)} {k : Nat} (h : VA X Tb C E G t ml es) (hl : ∀ e ds, ml e = .ok ds → ds.length ≤ 1000) : VQ X Tb C E G (Fl.on t .z) (qtup ml) (.Tuple es k pos) := PE.weak (pe_tup h) fun σ H Q _ hq => by
  obtain ⟨Z, en, w, hm⟩ := hq
  refine ⟨Z, en, w, ?_⟩
  unfold qtup at hm
  revert hm
  cases hds : ml en with
  | exc x => exact fun hm => hm
  | bad => exact fun hm => hm
  | ok ds =>
    dsimp only [R.bind]
    intro hm vs H1 x1 t1 o1
    have hlen : vs.length ≤ sizeLine := by
      rw [RVs.len o1]
      exact Nat.le_trans (hl en ds hds) (by decide)
    refine ⟨hlen, fun p np => ?_⟩
    have sm : Same H1 (upd H1 p (.tup vs)) := fun b z e => by rw [upd_ne (ne_of_none e np)]; exact e
    refine hm _ _ (x1.trans (Ex.of_same sm)) (t1.ext sm) ?_
    cases t with
    | true => exact ⟨p, vs, rfl, .inl (.inl upd_same), RVs.sb (Ex.of_same sm).ke _ _ o1⟩
    | false => exact ⟨p, vs, rfl, .inl (.inl (nw_upd np x1 rfl)), RVs.sb (nw_ext (Ex.of_same sm)) _ _ o1⟩
theorem vq_lst {es : List Expr} {t : Bool} {ml : En → R (List Dt)} (h : VA X Tb C E G t ml es) (hl : ∀ e ds, ml e = .ok ds → ds.length ≤ 1000) : VQ X Tb C E G (Fl.on t .own) (qlst ml) (.List es pos) := PE.weak (pe_lst h) fun σ H Q _ hq => by
  obtain ⟨Z, en, w, hm⟩ := hq
  refine ⟨Z, en, w, ?_⟩
  unfold qlst at hm
  revert hm
  cases hds : ml en with
  | exc x => exact fun hm => hm
  | bad => exact fun hm => hm
  | ok ds =>
    dsimp only [R.bind]
    intro hm vs H1 x1 t1 o1
    have hlen : vs.length ≤ sizeLine := by
      rw [RVs.len o1]
      exact Nat.le_trans (hl en ds hds) (by decide)
    refine ⟨hlen, fun p np => ?_⟩
    have sm : Same H1 (upd H1 p (.lst vs)) := fun b z e => by rw [upd_ne (ne_of_none e np)]; exact e
    refine hm _ _ (x1.trans (Ex.of_same sm)) (t1.ext sm) ?_
    cases t with
    | true => exact ⟨p, vs, rfl, upd_same, RVs.sb (Ex.of_same sm).ke _ _ o1⟩
    | false =>
      refine ⟨p, rfl, x1.none np, vs, upd_same, ?_⟩
      refine RVs.sb (fun b o e n => ?_) _ _ o1
      have hb : b ≠ p := fun z => by
        subst z
        obtain ⟨e1, _⟩ := nw_of e
        rw [np] at e1
        cases e1
      rw [rm_ne hb]
      exact nw_ext (Ex.of_same sm) b o e n
/-! ### calls of built-ins by values -/
def qC (f : List Dt → Option Dt) (ml : En → R (List Dt)) : En → R Dt := fun e => (ml e).bind fun ds => R.ofO (f ds)
def CallD (K : Kf) (f0 : Fl) (f : List Dt → Option Dt) (r : List V → Hp → VK → Prop) : Prop := ∀ (S H : Hp) (ds : List Dt) (vs : List V) (d : Dt) (Q : VK), Fit H → Sb S H → RVs K S ds vs → f ds = some d →
  (∀ v H', Same H H' → Out K f0 S H H' d v → Q v H') → r vs H Q
theorem call_w {es : List Expr} {t : Bool} {f : List Dt → Option Dt} {ml : En → R (List Dt)} {r : List V → Hp → VK → Prop} {σ : L2.St} {H : Hp} {Q : VK} (hd : CallD X.K f0 f r) (hq : tQ X.K Tb C E G (Fl.on t f0) (qC f ml) σ H Q) :
    tCB r (fun σ H Q => Fit H → tL X.K Tb C E G t ml σ H (fun v H' => Fit H' → Q v H')) σ H Q := by
  obtain ⟨Z, en, w, hm⟩ := hq
  intro _
  refine ⟨Z, en, w, ?_⟩
  unfold qC at hm
  revert hm
  cases ml en with
  | exc x => exact fun hm => hm
  | bad => exact fun hm => hm
  | ok ds =>
    dsimp only [R.bind]
    cases hf : f ds with
    | none => exact fun hm => hm.elim
    | some d =>
      intro hm vs H1 x1 t1 o1 fit
      refine hd (Sel t Z H H1) H1 ds vs d Q fit (Sel.sub _ _ _ _) o1 hf fun v H' sm o => ?_
      exact hm v H' (x1.trans (Ex.of_same sm)) (t1.ext sm) (o.comp x1 (Ex.of_same sm))
theorem vq_callB {x : Str} {id : String} {p : Pos} {e : Expr} {es : List Expr} {t : Bool} {f : List Dt → Option Dt} {ml : En → R (List Dt)} {r : List V → Hp → VK → Prop} (hc : CallR X (.builtin id) r) (hd : CallD X.K f0 f r) (hg : Gl X x) (hm : X.mg x = none) (hv : bootBuiltins x = some (.builtin id)) (ha : VA X Tb C E G t ml (e :: es))
    (hn : x ≠ "__name__" := by decide) (hdb : (x == ("__debug__" : Str)) = false := by decide)
    (he : starEach (e :: es) X.env = (false, eval e X.env) :: starEach es X.env := by rfl) (hpl : (backTo pos (starEach es X.env)).any (·.1) = false := by rfl) : VQ X Tb C E G (Fl.on t f0) (qC f ml) (.Call (.Name x p) (e :: es) [] pos) :=
  PE.weak (pe_callB hc hg hm hv (PA.fit ha) hn hdb he hpl) fun σ H Q _ hq => call_w (es := es) hd hq
theorem vq_callT {x : Str} {T : String} {p : Pos} {e : Expr} {es : List Expr} {t : Bool} {f : List Dt → Option Dt} {ml : En → R (List Dt)} {r : List V → Hp → VK → Prop} (hc : CallR X (.type T) r) (hd : CallD X.K f0 f r) (hg : Gl X x) (hm : X.mg x = none) (hv : bootBuiltins x = some (.type T)) (ha : VA X Tb C E G t ml (e :: es))
    (hn : x ≠ "__name__" := by decide) (hdb : (x == ("__debug__" : Str)) = false := by decide)
    (he : starEach (e :: es) X.env = (false, eval e X.env) :: starEach es X.env := by rfl) (hpl : (backTo pos (starEach es X.env)).any (·.1) = false := by rfl) : VQ X Tb C E G (Fl.on t f0) (qC f ml) (.Call (.Name x p) (e :: es) [] pos) :=
  PE.weak (pe_callTy hc hg hm hv (PA.fit ha) hn hdb he hpl) fun σ H Q _ hq => call_w (es := es) hd hq
/-! ### calls of defs that change no argument -/
/-- a def's promise: m -/
def spF (K : Kf) (Tb : Tbs) (f0 : Fl) (n : Nat) (m : List Dt → R Dt) : Sp := fun vs H Q E => ∃ ds S, ds.length = n ∧ RVs K S ds vs ∧ Sb S H ∧ LamX.Tabs Tb H ∧ match m ds with
  | .ok d => ∀ v H', Ex H H' → LamX.Tabs Tb H' → Out K f0 S H H' d v → Q v H'
  | .exc x => EXC K Tb E H x
  | .bad => False
def qF (f : List Dt → R Dt) (ml : En → R (List Dt)) : En → R Dt := fun e => (ml e).bind f
theorem vq_callF {CX : CXT} {k : Nat} {f : Addr} {fd : FuncData} {ps : List Str} {x : Str} {p : Pos} {e : Expr} {es : List Expr} {t : Bool} {n : Nat} {m : List Dt → R Dt} {ml : En → R (List Dt)} (F : FnOk X.prog X.w X.K X.mg X.base CX k f fd ps (spF X.K Tb f0 n m)) (hr : Room k X.A) (hg : Gl X x) (hm : X.mg x = some (.ref f)) (hk : PySem.W.keepIn X.K (.ref f) = true)
    (hb : Binds X.K fd ps []) (hx : Passes CX X E) (ha : VA X Tb C E G t ml (e :: es)) (hl : ∀ en ds, ml en = .ok ds → ds.length = n) (hdb : (x == ("__debug__" : Str)) = false := by decide)
    (he : starEach (e :: es) X.env = (false, eval e X.env) :: starEach es X.env := by rfl) (hpl : (backTo pos (starEach es X.env)).any (·.1) = false := by rfl) : VQ X Tb C E G (Fl.on t f0) (qF m ml) (.Call (.Name x p) (e :: es) [] pos) :=
  PE.weak (pe_call F hr hg hm hk hb .nil hx ha hdb he hpl) fun σ H Q _ hq => by
    obtain ⟨Z, en, w, hm⟩ := hq
    refine ⟨Z, en, w, ?_⟩
    unfold qF at hm
    revert hm
    cases hds : ml en with
    | exc x => exact fun hm => hm
    | bad => exact fun hm => hm
    | ok ds =>
      dsimp only [R.bind]
      intro hm vs H1 x1 t1 o1
      rw [List.append_nil]
      refine ⟨ds, Sel t Z H H1, hl en ds hds, o1, Sel.sub _ _ _ _, t1, ?_⟩
      revert hm
      cases m ds with
      | exc x => exact fun hm => EXC.of hm x1
      | bad => exact fun hm => hm
      | ok d => exact fun hm v H' x2 t2 o => hm v H' (x1.trans x2) t2 (o.comp x1 x2)
end
end VL
namespace VL
open PySem PySem.Spec PyProof.Rows L2
/-! ### quiet readings with all frozen -/
def fzM : SM → SM
  | .own => .z
  | .io => .z
  | m => m
def fzG (G : List SM) : List SM := G.map fzM
section
variable {X : Cx} {Tb : Tbs} {C : Cn} {E : XK} {G G1 G2 G' Gl : List SM} {fl fa fb fc f0 : Fl} {a b c : Expr} {ma mb mc : En → R Dt} {pos : Pos}
theorem Wf.frozen {K : Kf} {Z H : Hp} {e : En} {σ : L2.St} (w : Wf K Tb C G Z e σ H) : Wf K Tb ⟨H, H, none⟩ (fzG G) H e σ H where
  g := ⟨Sb.refl _, Sb.refl _, fun a o h _ => .inl h, fun a o h _ _ => h, fun a ps h => ⟨ps, h⟩, fun a (h : (none : Option Addr) = some a) => (nomatch h), w.g.tb⟩
  sl := fun i m hm => by
    unfold fzG at hm
    rw [List.getElem?_map] at hm
    cases hg : G[i]? with
    | none => rw [hg] at hm; cases hm
    | some m0 =>
      rw [hg] at hm
      cases hm
      obtain ⟨ov, h1, h2⟩ := w.sl i m0 hg
      refine ⟨ov, h1, ?_⟩
      cases m0 with
      | dead => exact trivial
      | z =>
        obtain ⟨v, e1, r⟩ := h2
        exact ⟨v, e1, RV.sb w.g.zh _ _ r⟩
      | own =>
        obtain ⟨a, e1, r, _⟩ := h2
        exact ⟨.ref a, e1, r.rv w.g.zh fun o q _ => q⟩
      | ptr b => exact h2
      | io =>
        obtain ⟨a, e1, r, _⟩ := h2
        exact ⟨.ref a, e1, r.rv w.g.zh fun o q _ => q⟩
  ap := fun i j a _ h => by
    unfold fzG at h
    rw [List.getElem?_map] at h
    cases hg : G[i]? with
    | none => rw [hg] at h; cases h
    | some m0 =>
      rw [hg] at h
      cases m0 <;> cases h
  le := by rw [w.le]; unfold fzG; simp
  ls := by rw [w.ls]; unfold fzG; simp
theorem vq_q {e : Expr} {m : En → R Dt} (h : ∀ C', VQ X Tb C' E (fzG G) .z m e) : VQ X Tb C E G .t m e := by
  refine ⟨fun pins s σ H Q I hq => ?_⟩
  refine (h ⟨H, H, none⟩).run pins s σ H Q I ?_
  obtain ⟨Z, en, w, hm⟩ := hq
  refine ⟨H, en, w.frozen, ?_⟩
  revert hm
  cases m en with
  | ok d => exact fun hm v H' x t o => hm v H' x t (Out.rv (fl := .z) o)
  | exc x => exact fun hm => hm
  | bad => exact fun hm => hm
theorem vb_q {e : Expr} {m : En → R Bool} (h : ∀ C', VB X Tb C' E (fzG G) m e) : VB X Tb C E G m e := by
  refine ⟨fun pins s σ H Q I hq => ?_⟩
  refine (h ⟨H, H, none⟩).run pins s σ H Q I ?_
  obtain ⟨Z, en, w, hm⟩ := hq
  exact ⟨H, en, w.frozen, hm⟩
/-! ### statements -/
def IoF (K : Kf) (C : Cn) (Z H : Hp) (e : En) : Prop := ∀ a, C.io = some a → OwnAt K Z H (e.getD 0 .none) a
def Ret (K : Kf) (C : Cn) (f0 : Fl) (Z H : Hp) (d : Dt) (v : V) : Prop := match f0 with
  | .own => ∃ a, v = .ref a ∧ C.H0 a = none ∧ Z a = none ∧ OwnAt K Z H d a
  | _ => RV K Z d v
abbrev EXS (K : Kf) (Tb : Tbs) (C : Cn) (E : XK) (x : Ec) : Prop := ∀ dx Z' H', WfG Tb C Z' H' → ExcAt K x dx H' → E (.ref (He.ga K x.cls)) dx H'
def Cont (K : Kf) (Tb : Tbs) (C : Cn) (E : XK) (f0 : Fl) (G' Gl : List SM) (D : Ends) (Z : Hp) (r : RS) : Prop := match r with
  | .nx e' => ∀ σ' Z' H', Sb Z Z' → Wf K Tb C G' Z' e' σ' H' → D.nx σ' H'
  | .bk e' => ∀ σ' Z' H', Sb Z Z' → Wf K Tb C Gl Z' e' σ' H' → D.bk σ' H'
  | .ct e' => ∀ σ' Z' H', Sb Z Z' → Wf K Tb C Gl Z' e' σ' H' → D.ct σ' H'
  | .rt d e' => ∀ v Z' H', WfG Tb C Z' H' → IoF K C Z' H' e' → Ret K C f0 Z' H' d v → D.rt v H'
  | .exc x => EXS K Tb C E x
  | .bad => False
def tS (K : Kf) (Tb : Tbs) (C : Cn) (E : XK) (f0 : Fl) (G G' Gl : List SM) (m : En → RS) : TS := fun D σ H =>
  ∃ Z e, Wf K Tb C G Z e σ H ∧ Cont K Tb C E f0 G' Gl D Z (m e)
theorem cont_mono {K : Kf} {Tb : Tbs} {C : Cn} {E : XK} {f0 : Fl} {G' Gl : List SM} {D : Ends} {Z Z1 : Hp} {r : RS} (s : Sb Z Z1) (h : Cont K Tb C E f0 G' Gl D Z r) : Cont K Tb C E f0 G' Gl D Z1 r := by
  revert h
  cases r with
  | nx e' => exact fun h σ' Z' H' s' w' => h σ' Z' H' (s.trans s') w'
  | bk e' => exact fun h σ' Z' H' s' w' => h σ' Z' H' (s.trans s') w'
  | ct e' => exact fun h σ' Z' H' s' w' => h σ' Z' H' (s.trans s') w'
  | rt d e' => exact fun h => h
  | exc x => exact fun h => h
  | bad => exact fun h => h
abbrev VS (X : Cx) (Tb : Tbs) (C : Cn) (E : XK) (f0 : Fl) (G G' Gl : List SM) (m : En → RS) (st : Stmt) : Prop := PS X st (tS X.K Tb C E f0 G G' Gl m)
abbrev VSs (X : Cx) (Tb : Tbs) (C : Cn) (E : XK) (f0 : Fl) (G G' Gl : List SM) (m : En → RS) (st : List Stmt) : Prop := PSs X st (tS X.K Tb C E f0 G G' Gl m)
theorem EXC.toS {K : Kf} {Z H : Hp} {x : Ec} (g : WfG Tb C Z H) (h : EXS K Tb C E x) : EXC K Tb E H x := fun dx H' x1 t e => h dx _ H' (g.ext x1 t) e
def sNx : En → RS := fun e => .nx e
def RS.bind (r : RS) (f : En → RS) : RS := match r with
  | .nx e => f e
  | r => r
def sSeq (m n : En → RS) : En → RS := fun e => (m e).bind n
theorem vss_nil : VSs X Tb C E f0 G G Gl sNx [] := PSs.weak pss_nil fun D σ H _ hq => by
  obtain ⟨Z, en, w, hm⟩ := hq
  exact hm σ Z H (Sb.refl _) w
theorem vss_cons {st : Stmt} {sts : List Stmt} {m n : En → RS} (h : VS X Tb C E f0 G G1 Gl m st) (h2 : VSs X Tb C E f0 G1 G' Gl n sts) : VSs X Tb C E f0 G G' Gl (sSeq m n) (st :: sts) := PSs.weak (pss_cons h h2) fun D σ H _ hq => by
  obtain ⟨Z, en, w, hm⟩ := hq
  refine ⟨Z, en, w, ?_⟩
  unfold sSeq at hm
  revert hm
  cases m en with
  | nx e' => exact fun hm σ' Z' H' s' w' => ⟨Z', e', w', cont_mono s' hm⟩
  | bk e' => exact fun hm => hm
  | ct e' => exact fun hm => hm
  | rt d e' => exact fun hm => hm
  | exc x => exact fun hm => hm
  | bad => exact fun hm => hm
/-! ### slots set -/
theorem getD_set {e : En} {i j : Nat} {d x : Dt} (h : i < e.length) : (e.set i d).getD j x = if i = j then d else e.getD j x := by
  by_cases hij : i = j
  · subst hij
    rw [if_pos rfl, List.getD_eq_getElem?_getD, List.getElem?_set_self h]
    rfl
  · rw [if_neg hij, List.getD_eq_getElem?_getD, List.getD_eq_getElem?_getD, List.getElem?_set_ne hij]
section
variable {K : Kf} {Z H H' : Hp} {e : En} {σ : L2.St}
theorem Wf.setM (w : Wf K Tb C G Z e σ H) {i : Nat} {m0 : SM} {d : Dt} {ov : Option V} (hi : i < G.length) (hs : SlotOk K C Z H m0 d ov)
    (ho : m0 = .own → ∀ (j : Nat) (a : Addr), j ≠ i → G[j]? = some SM.own → ov = some (.ref a) → σ[j]? ≠ some (some (.ref a))) : Wf K Tb C (G.set i m0) Z (e.set i d) (σ.set i ov) H where
  g := w.g
  sl := fun j m hm => by
    have hle : i < e.length := by rw [w.le]; exact hi
    have hls : i < σ.length := by rw [w.ls]; exact hi
    rw [getD_set hle]
    by_cases hij : i = j
    · subst hij
      rw [List.getElem?_set_self hi] at hm
      cases hm
      rw [if_pos rfl, List.getElem?_set_self hls]
      exact ⟨ov, rfl, hs⟩
    · rw [List.getElem?_set_ne hij] at hm
      rw [if_neg hij, List.getElem?_set_ne hij]
      exact w.sl j m hm
  ap := fun j k a hjk h1 h2 h3 h4 => by
    have hls : i < σ.length := by rw [w.ls]; exact hi
    by_cases hj : i = j
    · subst hj
      have hk : i ≠ k := hjk
      rw [List.getElem?_set_self hi] at h1
      rw [List.getElem?_set_ne hk] at h2 h4
      rw [List.getElem?_set_self hls] at h3
      cases h1
      exact ho rfl k a (fun z => hk z.symm) h2 (Option.some.inj h3) h4
    · rw [List.getElem?_set_ne hj] at h1 h3
      by_cases hk : i = k
      · subst hk
        rw [List.getElem?_set_self hi] at h2
        rw [List.getElem?_set_self hls] at h4
        cases h2
        exact ho rfl j a (fun z => hj z.symm) h1 (Option.some.inj h4) h3
      · rw [List.getElem?_set_ne hk] at h2 h4
        exact w.ap j k a hjk h1 h2 h3 h4
  le := by simpa using w.le
  ls := by simpa using w.ls
theorem Wf.setZ (w : Wf K Tb C G Z e σ H) {i : Nat} {d : Dt} {v : V} (hi : i < G.length) (r : RV K Z d v) : Wf K Tb C (G.set i .z) Z (e.set i d) (σ.set i (some v)) H :=
  w.setM hi ⟨v, rfl, r⟩ fun z => by cases z
theorem zs_rm {a : Addr} (zh : Sb Z H) (x : Ex H H') (n : H a = none) : Sb Z (rm (nw Z H H') a) := fun b o e1 e2 => by
  have hb : b ≠ a := fun z => by
    subst z
    rw [zh b o e1 e2] at n
    cases n
  rw [rm_ne hb]
  exact nw_s (zh.trans x.ke) b o e1 e2
/-- a new object a, owned by nobody yet -/
theorem Wf.extO (w : Wf K Tb C G Z e σ H) (x : Ex H H') (tb : LamX.Tabs Tb H') {a : Addr} (n : H a = none) : Wf K Tb C G (rm (nw Z H H') a) e σ H' := by
  have za : Z a = none ∨ ∃ u, Z a = some u ∧ nt u = false := by
    cases q : Z a with
    | none => exact .inl rfl
    | some u =>
      cases q2 : nt u with
      | true => rw [w.g.zh a u q q2] at n; cases n
      | false => exact .inr ⟨u, rfl, q2⟩
  have zs : Sb Z (rm (nw Z H H') a) := fun b o e1 e2 => by
    have hb : b ≠ a := fun z => by
      subst z
      rcases za with z | ⟨u, z, z2⟩
      · rw [e1] at z; cases z
      · rw [e1] at z; cases z; rw [e2] at z2; cases z2
    rw [rm_ne hb]
    exact nw_s (w.g.zh.trans x.ke) b o e1 e2
  have w1 := w.ext x tb
  refine ⟨⟨(rm_sub _ _).trans w1.g.zh, w.g.zz.trans zs, fun b o e1 e2 => w1.g.fr b o (rm_sub _ _ b o e1 e2) e2, w1.g.ke, w1.g.kt, fun b hb => ?_, tb⟩, fun i m hm => ?_, w.ap, w.le, w.ls⟩
  · obtain ⟨h1, h2, h3⟩ := w1.g.ih b hb
    refine ⟨h1, ?_, h3⟩
    unfold rm
    split
    · rfl
    · exact h2
  · obtain ⟨ov, h1, h2⟩ := w.sl i m hm
    refine ⟨ov, h1, ?_⟩
    cases m with
    | dead => exact trivial
    | z =>
      obtain ⟨v, e1, r⟩ := h2
      exact ⟨v, e1, RV.sb zs _ _ r⟩
    | own =>
      obtain ⟨b, e1, r, h3, h4⟩ := h2
      obtain ⟨o, q1, q2, q3, _⟩ := r.obj
      refine ⟨b, e1, r.mono zs (fun o q n => x.ke b o q n), h3, ?_⟩
      unfold rm
      split
      · rfl
      · exact nw_none q1 (x.ke b o q1 q3) q2 h4
    | ptr b => exact h2
    | io =>
      obtain ⟨b, e1, r, h3⟩ := h2
      exact ⟨b, e1, r.mono zs (fun o q n => x.ke b o q n), h3⟩
theorem Wf.setO (w : Wf K Tb C G Z e σ H) (x : Ex H H') (tb : LamX.Tabs Tb H') {i : Nat} {d : Dt} {v : V} (hi : i < G.length) (h : Out K .own Z H H' d v) : ∃ Z', Sb Z Z' ∧ Wf K Tb C (G.set i .own) Z' (e.set i d) (σ.set i (some v)) H' := by
  obtain ⟨a, rfl, n, o⟩ := h
  refine ⟨_, zs_rm w.g.zh x n, (w.extO x tb n).setM hi ⟨a, rfl, o, w.g.h0 n, rm_same⟩ fun _ j b hj hg e1 e2 => ?_⟩
  cases e1
  obtain ⟨ov, h1, b, h2, h3, _⟩ := w.sl j _ hg
  rw [h1] at e2
  cases e2
  cases h2
  obtain ⟨o', q, _⟩ := h3.obj
  rw [n] at q
  cases q
/-- freeze an owned slot -/
def fzA (Z H : Hp) (a : Addr) : Hp := fun b => if b = a then H a else Z b
theorem Wf.freeze (w : Wf K Tb C G Z e σ H) {i : Nat} (hi : G[i]? = some .own) : ∃ Z', Sb Z Z' ∧ Wf K Tb C (G.set i .z) Z' e σ H := by
  obtain ⟨ov, h1, a, h2, h3, h4, h5⟩ := w.sl i _ hi
  subst h2
  have hlt : i < G.length := (List.getElem?_eq_some_iff.mp hi).1
  obtain ⟨oo, q1, q2, q3, _⟩ := h3.obj
  have zs : Sb Z (fzA Z H a) := fun b o e1 _ => by
    unfold fzA
    split
    · rename_i hb
      subst hb
      rw [h5] at e1
      cases e1
    · exact e1
  have zn : ∀ b, b ≠ a → Z b = none → fzA Z H a b = none := fun b hb e => by
    unfold fzA
    rw [if_neg hb]
    exact e
  refine ⟨fzA Z H a, zs, ⟨fun b o e1 e2 => ?_, w.g.zz.trans zs, fun b o e1 e2 => ?_, w.g.ke, w.g.kt, fun b hb => ?_, w.g.tb⟩, fun j m hm => ?_, fun j k b hjk g1 g2 => ?_, by simpa using w.le, by simpa using w.ls⟩
  · unfold fzA at e1
    split at e1
    · rename_i hb
      subst hb
      exact e1
    · exact w.g.zh b o e1 e2
  · unfold fzA at e1
    split at e1
    · rename_i hb
      subst hb
      exact .inr (.inl h4)
    · exact w.g.fr b o e1 e2
  · obtain ⟨g1, g2, g3⟩ := w.g.ih b hb
    refine ⟨g1, zn b (fun z => ?_) g2, g3⟩
    subst z
    exact g1 h4
  · by_cases hij : i = j
    · subst hij
      rw [List.getElem?_set_self hlt] at hm
      cases hm
      refine ⟨_, h1, .ref a, rfl, h3.rv zs fun o q _ => ?_⟩
      unfold fzA
      rw [if_pos rfl]
      exact q
    · rw [List.getElem?_set_ne hij] at hm
      obtain ⟨ov, k1, k2⟩ := w.sl j m hm
      refine ⟨ov, k1, ?_⟩
      cases m with
      | dead => exact trivial
      | z =>
        obtain ⟨v, e1, r⟩ := k2
        exact ⟨v, e1, RV.sb zs _ _ r⟩
      | own =>
        obtain ⟨b, e1, r, k3, k4⟩ := k2
        refine ⟨b, e1, r.mono zs (fun o q _ => q), k3, zn b (fun z => ?_) k4⟩
        subst z
        subst e1
        exact w.ap i j b hij hi hm h1 k1
      | ptr b => exact k2
      | io =>
        obtain ⟨b, e1, r, k3⟩ := k2
        exact ⟨b, e1, r.mono zs (fun o q _ => q), k3⟩
  · by_cases hj : i = j
    · subst hj
      rw [List.getElem?_set_self hlt] at g1
      cases g1
    · by_cases hk : i = k
      · subst hk
        rw [List.getElem?_set_self hlt] at g2
        cases g2
      · rw [List.getElem?_set_ne hj] at g1
        rw [List.getElem?_set_ne hk] at g2
        exact w.ap j k b hjk g1 g2
/-- forget a slot -/
theorem Wf.kill (w : Wf K Tb C G Z e σ H) {i : Nat} (d : Dt) (hi : i < G.length) : Wf K Tb C (G.set i .dead) Z (e.set i d) σ H := by
  have hls : i < σ.length := by rw [w.ls]; exact hi
  have q := w.setM (m0 := .dead) (d := d) (ov := σ[i]) hi trivial fun z => by cases z
  rw [List.set_getElem_self] at q
  exact q
end
/-- ghosts -/
theorem vss_fz {sts : List Stmt} {m : En → RS} (i : Nat) (hi : G[i]? = some .own := by rfl) (h : VSs X Tb C E f0 (G.set i .z) G' Gl m sts) : VSs X Tb C E f0 G G' Gl m sts := PSs.weak h fun D σ H _ hq => by
  obtain ⟨Z, en, w, hm⟩ := hq
  obtain ⟨Z', s', w'⟩ := w.freeze hi
  exact ⟨Z', en, w', cont_mono s' hm⟩
def sKill (i : Nat) (m : En → RS) : En → RS := fun e => m (e.set i .none)
theorem vss_kill {sts : List Stmt} {m : En → RS} (i : Nat) (hi : i < G.length := by first | decide | exact of_decide_eq_true rfl) (h : VSs X Tb C E f0 (G.set i .dead) G' Gl m sts) : VSs X Tb C E f0 G G' Gl (sKill i m) sts := PSs.weak h fun D σ H _ hq => by
  obtain ⟨Z, en, w, hm⟩ := hq
  exact ⟨Z, _, w.kill .none hi, hm⟩
/-! ### single statements -/
def RS.ofR (r : R Dt) (f : Dt → RS) : RS := match r with
  | .ok d => f d
  | .exc x => .exc x
  | .bad => .bad
def sSet (i : Nat) (m : En → R Dt) : En → RS := fun e => RS.ofR (m e) fun d => .nx (e.set i d)
theorem vs_set (i : Nat) {x : Str} {p : Pos} {e : Expr} {m : En → R Dt} (h : VQ X Tb C E G .z m e) (hN : X.N.Nodup) (hi : X.N[i]? = some x := by rfl) (hx : Loc X.env.scope x := by first | exact Or.inl rfl | exact Or.inr rfl) (hg : i < G.length := by first | decide | exact of_decide_eq_true rfl) (hs : swapsWith e (some (.Name x p)) pos.line X.env = pure false := by rfl) (hf : X.fn x = true ∨ X.env.scope.names.lookup x = some .local := by first | exact Or.inl rfl | exact Or.inr rfl) : VS X Tb C E f0 G (G.set i .z) Gl (sSet i m) (.Assign [.Name x p] e pos) :=
  PS.weak (ps_set hN hi hx h hs hf) fun D σ H _ hq => by
    obtain ⟨Z, en, w, hm⟩ := hq
    refine ⟨Z, en, w, ?_⟩
    unfold sSet at hm
    revert hm
    cases m en with
    | exc x => exact fun hm => EXC.toS w.g hm
    | bad => exact fun hm => hm
    | ok d => exact fun hm v H' x t o => hm _ _ _ (nw_s (w.g.zh.trans x.ke)) ((w.ext x t).setZ hg o)
theorem vs_setO (i : Nat) {x : Str} {p : Pos} {e : Expr} {m : En → R Dt} (h : VQ X Tb C E G .own m e) (hN : X.N.Nodup) (hi : X.N[i]? = some x := by rfl) (hx : Loc X.env.scope x := by first | exact Or.inl rfl | exact Or.inr rfl) (hg : i < G.length := by first | decide | exact of_decide_eq_true rfl) (hs : swapsWith e (some (.Name x p)) pos.line X.env = pure false := by rfl) (hf : X.fn x = true ∨ X.env.scope.names.lookup x = some .local := by first | exact Or.inl rfl | exact Or.inr rfl) : VS X Tb C E f0 G (G.set i .own) Gl (sSet i m) (.Assign [.Name x p] e pos) :=
  PS.weak (ps_set hN hi hx h hs hf) fun D σ H _ hq => by
    obtain ⟨Z, en, w, hm⟩ := hq
    refine ⟨Z, en, w, ?_⟩
    unfold sSet at hm
    revert hm
    cases m en with
    | exc x => exact fun hm => EXC.toS w.g hm
    | bad => exact fun hm => hm
    | ok d =>
      intro hm v H' x t o
      obtain ⟨Z', s', w'⟩ := w.setO x t hg o
      exact hm _ _ _ s' w'
def sExpr (m : En → R Dt) : En → RS := fun e => RS.ofR (m e) fun _ => .nx e
theorem vs_expr {e : Expr} {m : En → R Dt} (h : VQ X Tb C E G fl m e) (hs : swapsWith e none pos.line X.env = pure false := by rfl) : VS X Tb C E f0 G G Gl (sExpr m) (.Expr e pos) :=
  PS.weak (ps_expr h hs) fun D σ H _ hq => by
    obtain ⟨Z, en, w, hm⟩ := hq
    refine ⟨Z, en, w, ?_⟩
    unfold sExpr at hm
    revert hm
    cases m en with
    | exc x => exact fun hm => EXC.toS w.g hm
    | bad => exact fun hm => hm
    | ok d => exact fun hm v H' x t o => hm _ _ _ (nw_s (w.g.zh.trans x.ke)) (w.ext x t)
theorem IoF.of {K : Kf} {Z H : Hp} {e : En} {σ : L2.St} (w : Wf K Tb C G Z e σ H) (hio : C.io = none ∨ G[0]? = some .io) : IoF K C Z H e := fun a ha => by
  rcases hio with h | h
  · rw [h] at ha; cases ha
  · obtain ⟨ov, _, b, _, r, h2⟩ := w.sl 0 _ h
    rw [ha] at h2
    cases h2
    exact r
def sRet (m : En → R Dt) : En → RS := fun e => RS.ofR (m e) fun d => .rt d e
theorem vs_ret {e : Expr} {m : En → R Dt} (h : VQ X Tb C E G .z m e) (hio : C.io = none ∨ G[0]? = some .io) : VS X Tb C E .z G G' Gl (sRet m) (.Return (some e) pos) :=
  PS.weak (ps_ret h) fun D σ H _ hq => by
    obtain ⟨Z, en, w, hm⟩ := hq
    refine ⟨Z, en, w, ?_⟩
    unfold sRet at hm
    revert hm
    cases m en with
    | exc x => exact fun hm => EXC.toS w.g hm
    | bad => exact fun hm => hm
    | ok d => exact fun hm v H' x t o => hm v _ _ (w.ext x t).g (.of (w.ext x t) hio) o
theorem vs_retO {e : Expr} {m : En → R Dt} (h : VQ X Tb C E G .own m e) (hio : C.io = none ∨ G[0]? = some .io) : VS X Tb C E .own G G' Gl (sRet m) (.Return (some e) pos) :=
  PS.weak (ps_ret h) fun D σ H _ hq => by
    obtain ⟨Z, en, w, hm⟩ := hq
    refine ⟨Z, en, w, ?_⟩
    unfold sRet at hm
    revert hm
    cases m en with
    | exc x => exact fun hm => EXC.toS w.g hm
    | bad => exact fun hm => hm
    | ok d =>
      intro hm v H' x t o
      obtain ⟨a, ev, n, o⟩ := o
      have w' := w.extO x t n
      exact hm v _ _ w'.g (.of w' hio) ⟨a, ev, w.g.h0 n, rm_same, o⟩
/-- return x, x an owned name -/
theorem vs_retV (i : Nat) {x : Str} {p : Pos} (hi : G[i]? = some .own := by rfl) (hio : C.io = none ∨ G[0]? = some .io) (hN : X.N[i]? = some x := by rfl) (hv : Vis X.env.scope x := by first | exact Or.inl rfl | exact Or.inr (Or.inl rfl) | exact Or.inr (Or.inr rfl)) (hd : (x == ("__debug__" : Str)) = false := by decide)
    (hcd : (x == ("__classdict__" : Str)) = false := by decide) : VS X Tb C E .own G G' Gl (sRet (qv i)) (.Return (some (.Name x p)) pos) :=
  PS.weak (ps_ret (pe_var hN hv hd hcd)) fun D σ H _ hq => by
    obtain ⟨Z, en, w, hm⟩ := hq
    obtain ⟨ov, h1, a, h2, h3, h4, h5⟩ := w.sl i _ hi
    subst h2
    exact ⟨.ref a, h1, hm _ _ _ w.g (.of w hio) ⟨a, rfl, h4, h5, h3⟩⟩
def sIf (c : En → R Bool) (m n : En → RS) : En → RS := fun e => match c e with
  | .ok k => if k = true then m e else n e
  | .exc x => .exc x
  | .bad => .bad
theorem vs_if {c : Expr} {p q : List Stmt} {mc : En → R Bool} {m n : En → RS} (hc : VB X Tb C E G mc c) (h1 : VSs X Tb C E f0 G G' Gl m p) (h2 : VSs X Tb C E f0 G G' Gl n q) : VS X Tb C E f0 G G' Gl (sIf mc m n) (.If c p q pos) :=
  PS.weak (ps_if hc h1 h2) fun D σ H _ hq => by
    obtain ⟨Z, en, w, hm⟩ := hq
    refine ⟨Z, en, w, ?_⟩
    unfold sIf at hm
    revert hm
    cases mc en with
    | exc x => exact fun hm => EXC.toS w.g hm
    | bad => exact fun hm => hm
    | ok k =>
      cases k with
      | true => exact fun hm H' x t => ⟨_, en, w.ext x t, cont_mono (nw_s (w.g.zh.trans x.ke)) hm⟩
      | false => exact fun hm H' x t => ⟨_, en, w.ext x t, cont_mono (nw_s (w.g.zh.trans x.ke)) hm⟩
def sPass : En → RS := fun e => .nx e
theorem vs_pass : VS X Tb C E f0 G G Gl sPass (.Pass pos) := PS.weak ps_pass fun D σ H _ hq => by
  obtain ⟨Z, en, w, hm⟩ := hq
  exact hm σ Z H (Sb.refl _) w
def sRetN : En → RS := fun e => .rt .none e
theorem vs_retN (hio : C.io = none ∨ G[0]? = some .io) : VS X Tb C E .z G G' Gl sRetN (.Return none pos) := PS.weak ps_retN fun D σ H _ hq => by
  obtain ⟨Z, en, w, hm⟩ := hq
  exact hm .non _ _ w.g (.of w hio) rfl
end
end VL
namespace VL
open PySem PySem.Spec PyProof.Rows L2
/-! ### what is walked -/
structure ItOk (K : Kf) (S : Hp) (J : It) (ds : List Dt) : Prop where
  len : ds.length ≤ sizeLine
  go : ∀ (i : Nat) (H : Hp), Sb S H → i < ds.length → J.go i H ∧ ∀ x H', J.yld i H x H' → Same H H' ∧ ∃ d, ds[i]? = some d ∧ RV K (nw S H H') d x
  stop : ∀ (i : Nat) (H : Hp), Sb S H → i = ds.length → J.stop i H
def tI (K : Kf) (Tb : Tbs) (C : Cn) (E : XK) (G : List SM) (m : En → R (List Dt)) : TI := fun σ H Q =>
  ∃ Z e, Wf K Tb C G Z e σ H ∧ match m e with
    | .ok ds => ∀ J H', Ex H H' → LamX.Tabs Tb H' → ItOk K (nw Z H H') J ds → Q J H'
    | .exc x => EXC K Tb E H x
    | .bad => False
theorem PI.weak {X : Cx} {tg e : Expr} {t t' : TI} (h : PI X tg e t) (i : ∀ σ H Q, Fit H → t' σ H Q → t σ H Q) : PI X tg e t' :=
  ⟨fun pins s σ H Q I hq => h.run pins s σ H Q I (i σ H Q (fit_of I.hok) hq)⟩
abbrev VI (X : Cx) (Tb : Tbs) (C : Cn) (E : XK) (G : List SM) (m : En → R (List Dt)) (tg e : Expr) : Prop := PI X tg e (tI X.K Tb C E G m)
section
variable {K : Kf} {S H : Hp} {a : Addr} {xs : List V} {ds : List Dt}
theorem itok_list (hs : SqL K S a xs) (r : RVs K S ds xs) (hl : xs.length ≤ sizeLine) (hinj : ∀ H ys, Sb S H → SqL K H a ys → SqL K H a xs → ys = xs) : True := trivial
theorem rv_nw {H' : Hp} {d : Dt} {v : V} (h : RV K S d v) (s : Sb S H') : RV K (nw S H H') d v := RV.sb (nw_s s) _ _ h
theorem itok_l (hs : SqL K S a xs) (r : RVs K S ds xs) (hl : xs.length ≤ sizeLine) : ItOk K S (Itl K a) ds where
  len := by rw [← r.len]; exact hl
  go := fun i H s hi => by
    have hx : i < xs.length := by rw [r.len]; exact hi
    have hq := SqL.sb s hs
    refine ⟨⟨xs, xs[i], hq, List.getElem?_eq_getElem hx⟩, fun x H' hy => ?_⟩
    obtain ⟨rfl, f⟩ := hy
    obtain ⟨v, e1, e2⟩ := r.get (List.getElem?_eq_getElem hi)
    have e3 := f xs hq
    rw [e1] at e3
    cases e3
    exact ⟨Same.refl _, _, List.getElem?_eq_getElem hi, rv_nw e2 s⟩
  stop := fun i H s hi => ⟨xs, SqL.sb s hs, by rw [r.len, hi]; exact Nat.le_refl _⟩
theorem itok_t (hs : SqT K S a xs) (r : RVs K S ds xs) (hl : xs.length ≤ sizeLine) : ItOk K S (Itt K a) ds where
  len := by rw [← r.len]; exact hl
  go := fun i H s hi => by
    have hx : i < xs.length := by rw [r.len]; exact hi
    have hq := SqT.sb s hs
    refine ⟨⟨xs, xs[i], hq, List.getElem?_eq_getElem hx⟩, fun x H' hy => ?_⟩
    obtain ⟨rfl, f⟩ := hy
    obtain ⟨v, e1, e2⟩ := r.get (List.getElem?_eq_getElem hi)
    have e3 := f xs hq
    rw [e1] at e3
    cases e3
    exact ⟨Same.refl _, _, List.getElem?_eq_getElem hi, rv_nw e2 s⟩
  stop := fun i H s hi => ⟨xs, SqT.sb s hs, by rw [r.len, hi]; exact Nat.le_refl _⟩
theorem itok_r {lo : Int} {n : Nat} (hn : n ≤ sizeLine) : ItOk K S (Itr lo n) ((List.range n).map fun i => .int (lo + (i : Nat))) where
  len := by simpa using hn
  go := fun i H s hi => by
    have hi' : i < n := by simpa using hi
    refine ⟨hi', fun x H' hy => ?_⟩
    obtain ⟨rfl, rfl⟩ := hy
    exact ⟨Same.refl _, .int (lo + i), by simp [hi'], rfl⟩
  stop := fun i H s hi => by
    have : n ≤ i := by
      have h2 : i = n := by simpa using hi
      omega
    exact this
end
/-- the items of a list or tuple -/
def seqD : Dt → Option (List Dt)
  | .list ds => some ds
  | .tuple ds => some ds
  | _ => none
section
variable {X : Cx} {Tb : Tbs} {C : Cn} {E : XK} {G : List SM} {fl : Fl} {tg e e2 : Expr} {m m2 : En → R Dt} {pos : Pos}
def iSeq (m : En → R Dt) : En → R (List Dt) := fun e => (m e).bind fun d => R.ofO (seqD d)
theorem seqD_ok {d : Dt} {ds : List Dt} (h : seqD d = some ds) : d = .list ds ∨ d = .tuple ds := by
  cases d with
  | list l => cases h; exact .inl rfl
  | tuple l => cases h; exact .inr rfl
  | none => cases h
  | bool _ => cases h
  | int _ => cases h
  | str _ => cases h
  | dict _ => cases h
theorem vi_seq (h : VQ X Tb C E G .z m e) : VI X Tb C E G (iSeq m) tg e := by
  refine ⟨fun pins s σ H Q I hq => ?_⟩
  obtain ⟨Z, en, w, hm⟩ := hq
  unfold iSeq at hm
  have key : ∀ {d : Dt}, m en = .ok d → (∀ v H', Ex H H' → LamX.Tabs Tb H' → Out X.K .z Z H H' d v → Q (Itl X.K 0) H' → True) → True := fun _ _ => trivial
  cases hd : m en with
  | exc x =>
    rw [hd] at hm
    exact (pi_list (tg := tg) h).run pins s σ H Q I ⟨Z, en, w, by rw [hd]; exact hm⟩
  | bad => rw [hd] at hm; exact hm.elim
  | ok d =>
    rw [hd] at hm
    dsimp only [R.bind] at hm
    cases hs : seqD d with
    | none => rw [hs] at hm; exact hm.elim
    | some ds =>
      rw [hs] at hm
      dsimp only [R.ofO] at hm
      rcases seqD_ok hs with rfl | rfl
      · refine (pi_list (tg := tg) (PE.fit h)).run pins s σ H Q I fun fit => ⟨Z, en, w, ?_⟩
        rw [hd]
        intro v H' x t o fit'
        obtain ⟨a, xs, ev, h1, h2⟩ := o
        have hl : xs.length ≤ sizeLine := fit' a xs (.inl (.inl (nw_sub Z H H' _ _ h1 rfl)))
        exact ⟨a, ev, ⟨xs, .inl (.inl (nw_sub Z H H' _ _ h1 rfl))⟩, hm _ H' x t (itok_l (.inl (.inl h1)) h2 hl)⟩
      · refine (pi_tup (tg := tg) (PE.fit h)).run pins s σ H Q I fun fit => ⟨Z, en, w, ?_⟩
        rw [hd]
        intro v H' x t o fit'
        obtain ⟨a, xs, ev, h1, h2⟩ := o
        have hl : xs.length ≤ sizeLine := by
          have h3 := SqT.sb (nw_sub Z H H') h1
          obtain h4 | h4 := h3
          · exact fit' a xs (.inr h4)
          · obtain ⟨o, its, n, _, _, _, hz, r⟩ := h4
            rw [r.length]
            simpa using hz
        exact ⟨a, ev, ⟨xs, SqT.sb (nw_sub Z H H') h1⟩, hm _ H' x t (itok_t h1 h2 hl)⟩
/-! ### ranges -/
def rangeD (lo hi : Int) : List Dt := (List.range (hi - lo).toNat).map fun (i : Nat) => .int (lo + (i : Nat))
def rg1 : List Dt → Option (List Dt)
  | [.int j] => if -(2 ^ 62) ≤ j ∧ j < 2 ^ 62 ∧ j.toNat ≤ sizeLine then some (rangeD 0 j) else none
  | _ => none
def rg2 : List Dt → Option (List Dt)
  | [.int i, .int j] => if -(2 ^ 62) ≤ i ∧ i < 2 ^ 62 ∧ -(2 ^ 62) ≤ j ∧ j < 2 ^ 62 ∧ (j - i).toNat ≤ sizeLine then some (rangeD i j) else none
  | _ => none
def iOf (f : List Dt → Option (List Dt)) (ml : En → R (List Dt)) : En → R (List Dt) := fun e => (ml e).bind fun ds => R.ofO (f ds)
theorem tI_of {K : Kf} {t : Bool} {ml : En → R (List Dt)} {f : List Dt → Option (List Dt)} {σ : L2.St} {H : Hp} {Q : It → Hp → Prop} (hq : tI K Tb C E G (iOf f ml) σ H Q) :
    tL K Tb C E G t ml σ H fun vs H' => ∃ ds ds', f ds = some ds' ∧ (∃ Z, Sb (nw Z H H') H' ∧ Outs K t Z H H' ds vs ∧ ∀ J, ItOk K (nw Z H H') J ds' → Q J H') := by
  obtain ⟨Z, en, w, hm⟩ := hq
  refine ⟨Z, en, w, ?_⟩
  unfold iOf at hm
  revert hm
  cases ml en with
  | exc x => exact fun hm => hm
  | bad => exact fun hm => hm
  | ok ds =>
    dsimp only [R.bind]
    cases hf : f ds with
    | none => exact fun hm => hm.elim
    | some ds' => exact fun hm vs H' x t o => ⟨ds, ds', hf, Z, nw_sub _ _ _, o, fun J k => hm J H' x t k⟩
theorem vi_range1 {p : Pos} {t : Bool} {ml : En → R (List Dt)} (hg : Gl X "range") (hm : X.mg "range" = none) (ha : VA X Tb C E G t ml [e]) (hs : starEach [e] X.env = [(false, eval e X.env)] := by rfl) :
    VI X Tb C E G (iOf rg1 ml) tg (.Call (.Name "range" p) [e] [] pos) := PI.weak (pi_range1 hg hm ha hs) fun σ H Q _ hq => by
  refine (tI_of (t := t) hq).imp fun Z hz => hz.imp fun en hw => ⟨hw.1, ?_⟩
  have h2 := hw.2
  revert h2
  cases ml en with
  | exc x => exact fun h => h
  | bad => exact fun h => h
  | ok ds =>
    intro h vs H' x tb o
    obtain ⟨ds, ds', h1, Z, h2, h3, h4⟩ := h vs H' x tb o
    unfold rg1 at h1
    split at h1
    · rename_i j
      split at h1
      · rename_i hb
        cases h1
        obtain ⟨y, ys, rfl, r1, r2⟩ := h3
        cases r1
        cases r2
        refine ⟨j, rfl, hb.1, hb.2.1, h4 _ ?_⟩
        unfold rangeD
        rw [Int.sub_zero]
        exact itok_r hb.2.2
      · cases h1
    · cases h1
theorem vi_range2 {p : Pos} {t : Bool} {ml : En → R (List Dt)} (hg : Gl X "range") (hm : X.mg "range" = none) (ha : VA X Tb C E G t ml [e, e2]) (hs : starEach [e, e2] X.env = [(false, eval e X.env), (false, eval e2 X.env)] := by rfl) (hpl : starEach [e2] X.env = [(false, eval e2 X.env)] := by rfl) :
    VI X Tb C E G (iOf rg2 ml) tg (.Call (.Name "range" p) [e, e2] [] pos) := PI.weak (pi_range2 hg hm ha hs hpl) fun σ H Q _ hq => by
  refine (tI_of (t := t) hq).imp fun Z hz => hz.imp fun en hw => ⟨hw.1, ?_⟩
  have h2 := hw.2
  revert h2
  cases ml en with
  | exc x => exact fun h => h
  | bad => exact fun h => h
  | ok ds =>
    intro h vs H' x tb o
    obtain ⟨ds, ds', h1, Z, h2, h3, h4⟩ := h vs H' x tb o
    unfold rg2 at h1
    split at h1
    · rename_i i j
      split at h1
      · rename_i hb
        cases h1
        obtain ⟨y, ys, rfl, r1, y2, ys2, rfl, r2, r3⟩ := h3
        cases r1
        cases r2
        cases r3
        exact ⟨i, j, rfl, ⟨hb.1, hb.2.1, hb.2.2.1, hb.2.2.2.1⟩, h4 _ (itok_r hb.2.2.2.2)⟩
      · cases h1
    · cases h1
end
end VL
namespace VL
open PySem PySem.Spec PyProof.Rows L2
section
variable {X : Cx} {Tb : Tbs} {C : Cn} {E : XK} {G G1 G2 G' Gl Gb : List SM} {fl f0 : Fl} {tg e : Expr} {m : En → R Dt} {mc : En → R Bool} {pos : Pos}
/-! ### targets: a value stored into slots -/
/-- only the slots sl differ -/
def OnlyAt (sl : List Nat) (σ σ' : L2.St) : Prop := σ'.length = σ.length ∧ ∀ j : Nat, j ∉ sl → σ'[j]? = σ[j]?
theorem OnlyAt.set {σ : L2.St} {i : Nat} {v : Option V} : OnlyAt [i] σ (σ.set i v) := ⟨by simp, fun j hj => by
  have h : i ≠ j := fun z => hj (by simp [z])
  rw [List.getElem?_set_ne h]⟩
theorem OnlyAt.then {sl sm : List Nat} {σ σ1 σ2 : L2.St} (h : OnlyAt sl σ σ1) (k : OnlyAt sm σ1 σ2) : OnlyAt (sl ++ sm) σ σ2 := ⟨k.1.trans h.1, fun j hj => by
  have h1 : j ∉ sl := fun z => hj (List.mem_append_left _ z)
  have h2 : j ∉ sm := fun z => hj (List.mem_append_right _ z)
  rw [k.2 j h2, h.2 j h1]⟩
/-- st: how the datum goes into the environment, sl: the slots -/
def tG (K : Kf) (Tb : Tbs) (C : Cn) (G G' : List SM) (sl : List Nat) (st : Dt → En → Option En) : TG := fun v σ H Q => ∃ Z en d en', Wf K Tb C G Z en σ H ∧ RV K Z d v ∧ st d en = some en' ∧ ∀ σ', OnlyAt sl σ σ' → Wf K Tb C G' Z en' σ' H → Q σ' H
abbrev VG (X : Cx) (Tb : Tbs) (C : Cn) (G G' : List SM) (sl : List Nat) (st : Dt → En → Option En) (tg : Expr) : Prop := PG X tg (tG X.K Tb C G G' sl st)
theorem PG.weak {t t' : TG} (h : PG X tg t) (i : ∀ v σ H Q, t' v σ H Q → t v σ H Q) : PG X tg t' :=
  ⟨fun pins s σ H x v Q I r hq => h.run pins s σ H x v Q I r (i _ _ _ _ hq)⟩
def gN (i : Nat) : Dt → En → Option En := fun d e => some (e.set i d)
theorem vg_name (i : Nat) {x : Str} {p : Pos} (hN : X.N.Nodup) (hi : X.N[i]? = some x := by rfl) (hx : Loc X.env.scope x := by first | exact Or.inl rfl | exact Or.inr rfl) (hg : i < G.length := by first | decide | exact of_decide_eq_true rfl) (hf : X.fn x = true ∨ X.env.scope.names.lookup x = some .local := by first | exact Or.inl rfl | exact Or.inr rfl) :
    VG X Tb C G (G.set i .z) [i] (gN i) (.Name x p) := PG.weak (pg_name hN hi hx hf) fun v σ H Q hq => by
  obtain ⟨Z, en, d, en', w, r, h1, h2⟩ := hq
  cases h1
  exact h2 _ OnlyAt.set (w.setZ hg r)
def gT2 (i j : Nat) : Dt → En → Option En := fun d e => match d with
  | .tuple [a, b] => some ((e.set i a).set j b)
  | _ => none
def gT3 (i j k : Nat) : Dt → En → Option En := fun d e => match d with
  | .tuple [a, b, c] => some (((e.set i a).set j b).set k c)
  | _ => none
theorem vg_t2 (i j : Nat) {x y : Str} {p q p2 : Pos} {k : Nat} (hc : X.calm = true) (hN : X.N.Nodup) (hi : X.N[i]? = some x := by rfl) (hj : X.N[j]? = some y := by rfl) (hx : Loc X.env.scope x := by first | exact Or.inl rfl | exact Or.inr rfl) (hy : Loc X.env.scope y := by first | exact Or.inl rfl | exact Or.inr rfl) (hg : i < G.length := by first | decide | exact of_decide_eq_true rfl) (hg2 : j < G.length := by first | decide | exact of_decide_eq_true rfl)
    (hf : X.fn x = true ∨ X.env.scope.names.lookup x = some .local := by first | exact Or.inl rfl | exact Or.inr rfl) (hf2 : X.fn y = true ∨ X.env.scope.names.lookup y = some .local := by first | exact Or.inl rfl | exact Or.inr rfl) :
    VG X Tb C G ((G.set i .z).set j .z) [i, j] (gT2 i j) (.Tuple [.Name x p, .Name y q] k p2) := PG.weak (pg_tup hc (pgs_cons (pg_name hN hi hx hf) (pgs_cons (pg_name hN hj hy hf2) pgs_nil))) fun v σ H Q hq => by
  obtain ⟨Z, en, d, en', w, r, h1, h2⟩ := hq
  unfold gT2 at h1
  split at h1
  · rename_i a b
    cases h1
    obtain ⟨a0, xs, ev, hs, y1, ys1, rfl, r1, y2, ys2, rfl, r2, r3⟩ := r
    cases r3
    have w1 := w.setZ hg r1
    have w2 := w1.setZ (i := j) (by simpa using hg2) r2
    exact ⟨a0, _, ev, SqT.sb w.g.zh hs, rfl, y1, _, rfl, y2, [], rfl, rfl, h2 _ (OnlyAt.set.then OnlyAt.set) w2⟩
  · cases h1
theorem vg_t3 (i j l : Nat) {x y z : Str} {p q q2 p2 : Pos} {k : Nat} (hc : X.calm = true) (hN : X.N.Nodup) (hi : X.N[i]? = some x := by rfl) (hj : X.N[j]? = some y := by rfl) (hl : X.N[l]? = some z := by rfl) (hx : Loc X.env.scope x := by first | exact Or.inl rfl | exact Or.inr rfl) (hy : Loc X.env.scope y := by first | exact Or.inl rfl | exact Or.inr rfl) (hz : Loc X.env.scope z := by first | exact Or.inl rfl | exact Or.inr rfl)
    (hg : i < G.length := by first | decide | exact of_decide_eq_true rfl) (hg2 : j < G.length := by first | decide | exact of_decide_eq_true rfl) (hg3 : l < G.length := by first | decide | exact of_decide_eq_true rfl)
    (hf : X.fn x = true ∨ X.env.scope.names.lookup x = some .local := by first | exact Or.inl rfl | exact Or.inr rfl) (hf2 : X.fn y = true ∨ X.env.scope.names.lookup y = some .local := by first | exact Or.inl rfl | exact Or.inr rfl) (hf3 : X.fn z = true ∨ X.env.scope.names.lookup z = some .local := by first | exact Or.inl rfl | exact Or.inr rfl) :
    VG X Tb C G (((G.set i .z).set j .z).set l .z) [i, j, l] (gT3 i j l) (.Tuple [.Name x p, .Name y q, .Name z q2] k p2) := PG.weak (pg_tup hc (pgs_cons (pg_name hN hi hx hf) (pgs_cons (pg_name hN hj hy hf2) (pgs_cons (pg_name hN hl hz hf3) pgs_nil)))) fun v σ H Q hq => by
  obtain ⟨Z, en, d, en', w, r, h1, h2⟩ := hq
  unfold gT3 at h1
  split at h1
  · rename_i a b c
    cases h1
    obtain ⟨a0, xs, ev, hs, y1, ys1, rfl, r1, y2, ys2, rfl, r2, y3, ys3, rfl, r3, r4⟩ := r
    cases r4
    have w1 := w.setZ hg r1
    have w2 := w1.setZ (i := j) (by simpa using hg2) r2
    have w3 := w2.setZ (i := l) (by simpa using hg3) r3
    exact ⟨a0, _, ev, SqT.sb w.g.zh hs, rfl, y1, _, rfl, y2, _, rfl, y3, [], rfl, rfl, h2 _ ((OnlyAt.set.then OnlyAt.set).then OnlyAt.set) w3⟩
  · cases h1
/-- targets = value -/
def sAsg (st : Dt → En → Option En) (m : En → R Dt) : En → RS := fun e => RS.ofR (m e) fun d => match st d e with
  | some e' => .nx e'
  | none => .bad
theorem vs_asg {sl : List Nat} {st : Dt → En → Option En} (h : VQ X Tb C E G .z m e) (hg : VG X Tb C G G' sl st tg) (hs : swapsWith e (some tg) pos.line X.env = pure false := by rfl) (hw : swappedStores [tg] e X.env = pure none := by rfl) (h1 : (assignEach [tg] X.env).map (·.2) = [assign tg X.env] := by rfl) : VS X Tb C E f0 G G' Gl (sAsg st m) (.Assign [tg] e pos) :=
  PS.weak (ps_asg h hg hs hw h1) fun D σ H _ hq => by
    obtain ⟨Z, en, w, hm⟩ := hq
    refine ⟨Z, en, w, ?_⟩
    unfold sAsg at hm
    revert hm
    cases m en with
    | exc x => exact fun hm => EXC.toS w.g hm
    | bad => exact fun hm => hm
    | ok d =>
      dsimp only [RS.ofR]
      cases hst : st d en with
      | none => exact fun hm => hm.elim
      | some e' => exact fun hm v H' x t o => ⟨_, en, d, e', w.ext x t, o, hst, fun σ' _ w' => hm _ _ _ (nw_s (w.g.zh.trans x.ke)) w'⟩
end
end VL
namespace VL
open PySem PySem.Spec PyProof.Rows L2
section
variable {X : Cx} {Tb : Tbs} {C : Cn} {E : XK} {G G1 G2 G' Gl Gb : List SM} {fl f0 : Fl} {tg e iter elt : Expr} {m me : En → R Dt} {mc : En → R Bool} {pos : Pos} {K : Kf}
/-! ### for -/
def forL (st : Dt → En → Option En) (body : En → RS) : List Dt → En → RS
  | [], e => .nx e
  | d :: ds, e => match st d e with
    | none => .bad
    | some e1 => match body e1 with
      | .nx e2 => forL st body ds e2
      | .ct e2 => forL st body ds e2
      | .bk e2 => .nx e2
      | .rt x e2 => .rt x e2
      | .exc x => .exc x
      | .bad => .bad
def sFor (mi : En → R (List Dt)) (st : Dt → En → Option En) (body : En → RS) : En → RS := fun e => match mi e with
  | .ok ds => forL st body ds e
  | .exc x => .exc x
  | .bad => .bad
theorem EXS_E {D : Ends} {Z : Hp} {x : Ec} (h : Cont K Tb C E f0 G' Gl D Z (.exc x)) : EXS K Tb C E x := h
theorem vs_for {sl : List Nat} {body : List Stmt} {mi : En → R (List Dt)} {st : Dt → En → Option En} {mb : En → RS} (hi : VI X Tb C E G mi tg iter) (hg : VG X Tb C G G1 sl st tg) (hb : VSs X Tb C E f0 G1 G G mb body) (hp : PassesOwn (model X.prog X.w) X.A X.env X.xe) (hc : X.calm = true) (hs : ∀ x, foldedSetIterable iter X.env x = pure x := by intro _; rfl) :
    VS X Tb C E f0 G G Gl (sFor mi st mb) (.For tg iter body [] pos) := PS.weak (ps_for hp hc hi hg hb hs) fun D σ H _ hq => by
  obtain ⟨Z, en, w, hm⟩ := hq
  refine ⟨Z, en, w, ?_⟩
  unfold sFor at hm
  revert hm
  cases mi en with
  | exc x => exact fun hm => EXC.toS w.g hm
  | bad => exact fun hm => hm
  | ok ds =>
    intro hm J H1 x1 t1 ok
    have zz : Sb Z (nw Z H H1) := nw_s (w.g.zh.trans x1.ke)
    have w1 := w.ext x1 t1
    generalize nw Z H H1 = S at ok zz w1
    refine ⟨fun i k σ H => k = ds.length - i ∧ i ≤ ds.length ∧ ∃ Z' en', Sb S Z' ∧ Sb Z Z' ∧ Wf X.K Tb C G Z' en' σ H ∧ Cont X.K Tb C E f0 G Gl D Z' (forL st mb (ds.drop i) en'), ?_, ?_⟩
    · exact ⟨ds.length, rfl, Nat.zero_le _, _, en, Sb.refl _, zz, w1, cont_mono zz hm⟩
    · rintro i k σ2 H2 ⟨rfl, hi, Z2, en2, s2, s3, w2, hm2⟩
      by_cases hlt : i < ds.length
      · right
        obtain ⟨hgo, hy⟩ := ok.go i H2 (s2.trans w2.g.zh) hlt
        have hd : ds.drop i = ds[i] :: ds.drop (i + 1) := List.drop_eq_getElem_cons hlt
        rw [hd] at hm2
        refine ⟨hgo, fun σ H => i + 1 ≤ ds.length ∧ ∃ Z' en', Sb Z2 Z' ∧ Wf X.K Tb C G Z' en' σ H ∧ Cont X.K Tb C E f0 G Gl D Z' (forL st mb (ds.drop (i + 1)) en'), ?_, ?_⟩
        · rintro σ' H' ⟨h1, Z', en', s4, w', hm'⟩
          exact ⟨ds.length - (i + 1), by omega, rfl, h1, Z', en', s2.trans s4, s3.trans s4, w', hm'⟩
        · intro x H3 hyld
          obtain ⟨sm, d, hd2, rv⟩ := hy x H3 hyld
          rw [List.getElem?_eq_getElem hlt] at hd2
          cases hd2
          have x3 := Ex.of_same sm
          have t3 := w2.g.tb.ext sm
          have w3 := w2.ext x3 t3
          have z3 : Sb Z2 (nw Z2 H2 H3) := nw_s (w2.g.zh.trans x3.ke)
          have rv2 : RV X.K (nw Z2 H2 H3) ds[i] x := RV.sb (nw_mono s2) _ _ rv
          unfold forL at hm2
          revert hm2
          cases hst : st ds[i] en2 with
          | none => exact fun hm2 => hm2.elim
          | some e3 =>
            intro hm2
            refine ⟨_, en2, _, e3, w3, rv2, hst, fun σ4 _ w4 => ⟨_, e3, w4, ?_⟩⟩
            revert hm2
            dsimp only
            cases mb e3 with
            | nx e4 => exact fun hm2 σ' Z' H' s' w' => ⟨hlt, Z', e4, z3.trans s', w', cont_mono (z3.trans s') hm2⟩
            | ct e4 => exact fun hm2 σ' Z' H' s' w' => ⟨hlt, Z', e4, z3.trans s', w', cont_mono (z3.trans s') hm2⟩
            | bk e4 => exact fun hm2 σ' Z' H' s' w' => hm2 σ' Z' H' (z3.trans s') w'
            | rt y e4 => exact fun hm2 => hm2
            | exc y => exact fun hm2 => hm2
            | bad => exact fun hm2 => hm2
      · left
        have hn : i = ds.length := by omega
        refine ⟨ok.stop i H2 (s2.trans w2.g.zh) hn, ?_⟩
        rw [List.drop_of_length_le (Nat.le_of_eq hn.symm)] at hm2
        exact hm2 σ2 Z2 H2 (Sb.refl _) w2
/-! ### while -/
def whileL (c : En → R Bool) (body : En → RS) : Nat → En → RS
  | 0, _ => .bad
  | n + 1, e => match c e with
    | .exc x => .exc x
    | .bad => .bad
    | .ok false => .nx e
    | .ok true => match body e with
      | .nx e2 => whileL c body n e2
      | .ct e2 => whileL c body n e2
      | .bk e2 => .nx e2
      | .rt x e2 => .rt x e2
      | .exc x => .exc x
      | .bad => .bad
theorem vs_while {c : Expr} {body : List Stmt} {mb : En → RS} (n : Nat) (hc : VB X Tb C E G mc c) (hb : VSs X Tb C E f0 G G G mb body) (hp : PassesOwn (model X.prog X.w) X.A X.env X.xe) : VS X Tb C E f0 G G Gl (whileL mc mb n) (.While c body [] pos) :=
  PS.weak (ps_while hp hc hb) fun D σ H _ hq => by
    refine ⟨fun k σ H => ∃ Z en, Wf X.K Tb C G Z en σ H ∧ Cont X.K Tb C E f0 G Gl D Z (whileL mc mb k en), ⟨n, hq⟩, ?_⟩
    rintro k σ H ⟨Z, en, w, hm⟩
    cases k with
    | zero => exact hm.elim
    | succ k =>
      refine ⟨Z, en, w, ?_⟩
      unfold whileL at hm
      revert hm
      cases mc en with
      | exc x => exact fun hm => EXC.toS w.g hm
      | bad => exact fun hm => hm
      | ok b =>
        cases b with
        | false => exact fun hm H' x t => hm _ _ _ (nw_s (w.g.zh.trans x.ke)) (w.ext x t)
        | true =>
          intro hm H' x t
          have zz : Sb Z (nw Z H H') := nw_s (w.g.zh.trans x.ke)
          refine ⟨fun σ' H' => ∃ Z en, Wf X.K Tb C G Z en σ' H' ∧ Cont X.K Tb C E f0 G Gl D Z (whileL mc mb k en), fun σ' H' h => ⟨k, Nat.lt_succ_self k, h⟩, _, en, w.ext x t, ?_⟩
          revert hm
          dsimp only
          cases mb en with
          | nx e4 => exact fun hm2 σ' Z' H' s' w' => ⟨Z', e4, w', cont_mono (zz.trans s') hm2⟩
          | ct e4 => exact fun hm2 σ' Z' H' s' w' => ⟨Z', e4, w', cont_mono (zz.trans s') hm2⟩
          | bk e4 => exact fun hm2 σ' Z' H' s' w' => hm2 σ' Z' H' (zz.trans s') w'
          | rt y e4 => exact fun hm2 => hm2
          | exc y => exact fun hm2 => hm2
          | bad => exact fun hm2 => hm2
def sBk : En → RS := fun e => .bk e
def sCt : En → RS := fun e => .ct e
theorem vs_break : VS X Tb C E f0 G G' G sBk (.Break pos) := PS.weak ps_break fun D σ H _ hq => by
  obtain ⟨Z, en, w, hm⟩ := hq
  exact hm _ _ _ (Sb.refl _) w
theorem vs_continue : VS X Tb C E f0 G G' G sCt (.Continue pos) := PS.weak ps_continue fun D σ H _ hq => by
  obtain ⟨Z, en, w, hm⟩ := hq
  exact hm _ _ _ (Sb.refl _) w
/-- a block that never goes on: any end -/
theorem vss_end {sts : List Stmt} {ms : En → RS} (h : VSs X Tb C E f0 G G1 Gl ms sts) (hn : ∀ e e', ms e ≠ .nx e') : VSs X Tb C E f0 G G' Gl ms sts := PSs.weak h fun D σ H _ hq => by
  obtain ⟨Z, en, w, hm⟩ := hq
  refine ⟨Z, en, w, ?_⟩
  revert hm
  cases hms : ms en with
  | nx e' => exact (hn en e' hms).elim
  | bk e' => exact fun hm => hm
  | ct e' => exact fun hm => hm
  | rt d e' => exact fun hm => hm
  | exc x => exact fun hm => hm
  | bad => exact fun hm => hm
/-! ### raise X() -/
def sRaise (x : Str) : En → RS := fun _ => .exc ⟨x, .none⟩
theorem pmk_own0 {D : Addr} {bmB : List Value} {B newId initId : String} {x : Str} {p : Pos} (F : ExcBaseFacts B newId initId bmB) (q : PySem.W.excIn X.K D bmB newId = true) (gC : X.mg x = some (.ref D)) (kC : PySem.W.keepIn X.K (.ref D) = true) (r : Raises X (.ref D)) (hg : L2.Gl X x)
    (hdb : (x == ("__debug__" : Str)) = false := by decide) : PMk X (.Call (.Name x p) [] [] pos) (fun _ H Q => Q (.ref D) none H) := by
  intro pins s σ H Q I h
  refine wpAny_Call_Name_kw (ld_glob I hg gC ?_ hdb)
  refine PySem.W.callWith_K0 I.kIn kC ?_
  obtain ⟨bm, N, nm, qn, bs, hdct, sn, sub, ab, col, dd, k0, k1, k2, k3, k5, mN, hC, hN, hni, T⟩ := exc_obj I.kIn q
  refine wpAny_call_exc_subT F T hC hN hni (fun h' e hm => ?_) (by show 0 ≤ sizeLine; exact Nat.zero_le _)
  exact mk_of I hm r h (I.hok.gone hm.new)
theorem vs_raise {x : Str} {p p2 : Pos} (hc : X.calm = true) (tk : Takes X (fun cls d _ H => E cls d H)) (hx : PMk X (.Call (.Name x p) [] [] p2) (fun _ H Q => Q (.ref (He.ga X.K x)) none H)) : VS X Tb C E f0 G G' Gl (sRaise x) (.Raise (some (.Call (.Name x p) [] [] p2)) none pos) :=
  PS.weak (ps_raise hc tk hx) fun D σ H _ hq => by
    obtain ⟨Z, en, w, hm⟩ := hq
    exact hm none Z H w.g ⟨rfl, rfl⟩
/-! ### [elt for tg in iter if ..] -/
def fmR (f : Dt → R (Option Dt)) : List Dt → R (List Dt)
  | [] => .ok []
  | d :: ds => match f d with
    | .ok (some x) => (fmR f ds).bind fun xs => .ok (x :: xs)
    | .ok none => fmR f ds
    | _ => .bad
def lcItem (st : Dt → En → Option En) (mt : En → R Bool) (me : En → R Dt) (e : En) (d : Dt) : R (Option Dt) := match st d e with
  | none => .bad
  | some e1 => match mt e1 with
    | .ok true => (me e1).bind fun x => .ok (some x)
    | .ok false => .ok none
    | _ => .bad
def wipeE (e : En) : List Nat → En
  | [] => e
  | i :: is => (wipeE e is).set i .none
def qLC (mi : En → R (List Dt)) (vs : List Nat) (st : Dt → En → Option En) (mt : En → R Bool) (me : En → R Dt) : En → R Dt := fun e => (mi e).bind fun ds => (fmR (lcItem st mt me (wipeE e vs)) ds).bind fun xs => .ok (.list xs)
/-- a clause's tests -/
abbrev VTs (X : Cx) (Tb : Tbs) (C : Cn) (E : XK) (G : List SM) (m : En → R Bool) (ifs : List Expr) : Prop := PTs X ifs (tB X.K Tb C E G m)
def bYes : En → R Bool := fun _ => .ok true
theorem vts_nil : VTs X Tb C E G bYes [] := ⟨fun pins s σ H Q I hq => by
  obtain ⟨Z, en, w, hm⟩ := hq
  exact pts_nil.run pins s σ H Q I (hm H (Ex.refl H) w.g.tb)⟩
theorem vts_one {c : Expr} (h : VB X Tb C E G mc c) : VTs X Tb C E G mc [c] := pts_one h
def wipeG (G : List SM) : List Nat → List SM
  | [] => G
  | i :: is => (wipeG G is).set i .dead
theorem wipeG_len (G : List SM) : ∀ vs : List Nat, (wipeG G vs).length = G.length
  | [] => rfl
  | i :: is => by unfold wipeG; rw [List.length_set, wipeG_len G is]
theorem Wf.setD {Z H : Hp} {en : En} {σ : L2.St} (w : Wf K Tb C G Z en σ H) {i : Nat} (hi : i < G.length) : Wf K Tb C (G.set i .dead) Z (en.set i .none) (σ.set i none) H := w.setM hi trivial fun z => by cases z
theorem Wf.wipe {Z H : Hp} {en : En} {σ : L2.St} (w : Wf K Tb C G Z en σ H) : ∀ vs : List Nat, (∀ i ∈ vs, i < G.length) → Wf K Tb C (wipeG G vs) Z (wipeE en vs) (L2.wipe σ vs) H
  | [], _ => w
  | i :: is, h => by
    have w2 := Wf.wipe w is fun j hj => h j (List.mem_cons_of_mem _ hj)
    exact w2.setD (by rw [wipeG_len]; exact h i List.mem_cons_self)
theorem wipe_get {σ : L2.St} {j : Nat} : ∀ {vs : List Nat}, j ∉ vs → (L2.wipe σ vs)[j]? = σ[j]?
  | [], _ => rfl
  | v :: vs, h => by
    have h1 : v ≠ j := fun z => h (by simp [z])
    have h2 : j ∉ vs := fun z => h (List.mem_cons_of_mem _ z)
    unfold L2.wipe
    rw [List.getElem?_set_ne h1, wipe_get h2]
theorem wipe_in {σ : L2.St} {j : Nat} : ∀ {vs : List Nat}, j ∈ vs → j < σ.length → (L2.wipe σ vs)[j]? = some none
  | v :: vs, h, hl => by
    unfold L2.wipe
    by_cases hv : v = j
    · subst hv
      rw [List.getElem?_set_self (by rw [L2.wipe_length]; exact hl)]
    · rw [List.getElem?_set_ne hv]
      rcases List.mem_cons.mp h with z | z
      · exact absurd z.symm hv
      · exact wipe_in z hl
theorem wipe_same {σ σ2 : L2.St} {vs sl : List Nat} (h : OnlyAt sl (L2.wipe σ vs) σ2) (hs : ∀ i ∈ sl, i ∈ vs) : L2.wipe σ2 vs = L2.wipe σ vs := by
  have hl : σ2.length = σ.length := by rw [h.1, L2.wipe_length]
  refine List.ext_getElem? fun j => ?_
  by_cases hj : j ∈ vs
  · by_cases hlt : j < σ.length
    · rw [wipe_in hj (by rw [hl]; exact hlt), wipe_in hj hlt]
    · rw [List.getElem?_eq_none (by rw [L2.wipe_length, hl]; omega), List.getElem?_eq_none (by rw [L2.wipe_length]; omega)]
  · rw [wipe_get hj, h.2 j (fun z => hj (hs j z))]
theorem tabs_upd {H : Hp} {D : Addr} {xs : List V} {o : HO} (t : LamX.Tabs Tb H) (hD : H D = some (.lst xs)) : LamX.Tabs Tb (upd H D o) := fun p hp => by
  obtain ⟨ps, h1, h2, h3⟩ := t p hp
  have n1 : p.1 ≠ D := fun z => by rw [z, hD] at h1; cases h1
  refine ⟨ps, by rw [upd_ne n1]; exact h1, h2, fun pos cv hc => ?_⟩
  obtain ⟨c, e1, e2⟩ := h3 pos cv hc
  have n2 : c ≠ D := fun z => by rw [z, hD] at e2; cases e2
  exact ⟨c, e1, by rw [upd_ne n2]; exact e2⟩
theorem fm_cons {f : Dt → R (Option Dt)} {d : Dt} {ds xs outs : List Dt} (h : (fmR f (d :: ds)).bind (fun ys => .ok (outs ++ ys)) = .ok xs) :
    (f d = .ok none ∧ (fmR f ds).bind (fun ys => .ok (outs ++ ys)) = .ok xs) ∨ ∃ y, f d = .ok (some y) ∧ (fmR f ds).bind (fun ys => .ok ((outs ++ [y]) ++ ys)) = .ok xs := by
  unfold fmR at h
  cases hf : f d with
  | exc x => rw [hf] at h; cases h
  | bad => rw [hf] at h; cases h
  | ok o =>
    rw [hf] at h
    cases o with
    | none => exact .inl ⟨rfl, h⟩
    | some y =>
      refine .inr ⟨y, rfl, ?_⟩
      revert h
      dsimp only
      cases fmR f ds with
      | exc x => exact fun h => by cases h
      | bad => exact fun h => by cases h
      | ok ys =>
        intro h
        have h2 : outs ++ y :: ys = xs := by
          have h3 : (R.ok (outs ++ y :: ys) : R (List Dt)) = .ok xs := h
          exact R.ok.inj h3
        show (R.ok ((outs ++ [y]) ++ ys) : R (List Dt)) = .ok xs
        rw [← h2, List.append_assoc]
        rfl
abbrev E00 : XK := fun _ _ _ => False
theorem lc_w {fe : Fl} {vs sl : List Nat} {mi : En → R (List Dt)} {st : Dt → En → Option En} {mt : En → R Bool} {σ : L2.St} {H : Hp} {Q : VK} (hfe : fe.t? = false) (hv : ∀ i ∈ vs, i < G.length) (hsl : ∀ i ∈ sl, i ∈ vs)
    (hq : tQ K Tb C E G .own (qLC mi vs st mt me) σ H Q) : tLc (tI K Tb C E G mi) (tG K Tb C (wipeG G vs) Gb sl st) (tB K Tb C E00 Gb mt) (tQ K Tb C E00 Gb fe me) vs σ H Q := by
  obtain ⟨Z, en, w, hm⟩ := hq
  refine ⟨Z, en, w, ?_⟩
  unfold qLC at hm
  revert hm
  cases mi en with
  | exc x => exact fun hm => hm
  | bad => exact fun hm => hm
  | ok ds =>
    dsimp only [R.bind]
    cases hf : fmR (lcItem st mt me (wipeE en vs)) ds with
    | exc x =>
      exfalso
      revert hf
      have : ∀ (f : Dt → R (Option Dt)) (l : List Dt), fmR f l ≠ .exc x := fun f l => by
        induction l with
        | nil => intro h; cases h
        | cons d l ih =>
          intro h
          unfold fmR at h
          split at h
          · revert h
            cases hh : fmR f l with
            | exc y => exact fun h => by cases h; exact ih hh
            | bad => exact fun h => by cases h
            | ok y => exact fun h => by cases h
          · exact ih h
          · cases h
      exact this _ _
    | bad => exact fun hm => hm.elim
    | ok xs =>
      intro hm J H1 x1 t1 iok D nD
      have hD0 : H D = none := x1.none nD
      have sD : ∀ u, (nw Z H H1) D ≠ some u := fun u z => by
        rw [(nw_of z).1] at nD
        cases nD
      refine ⟨fun i k H' => k = ds.length - i ∧ i ≤ ds.length ∧ Ex H1 H' ∧ LamX.Tabs Tb H' ∧ ∃ acc outs, H' D = some (.lst acc) ∧ RVs K (rm (nw Z H H') D) outs acc ∧ outs.length ≤ i ∧ (fmR (lcItem st mt me (wipeE en vs)) (ds.drop i)).bind (fun ys => .ok (outs ++ ys)) = .ok xs, ?_, ?_⟩
      · have sm : Same H1 (upd H1 D (.lst [])) := fun b z e => by rw [upd_ne (ne_of_none e nD)]; exact e
        refine ⟨ds.length, rfl, Nat.zero_le _, Ex.of_same sm, t1.ext sm, [], [], upd_same, rfl, Nat.le_refl _, ?_⟩
        rw [List.drop_zero, hf]
        rfl
      · rintro i k H2 ⟨rfl, hi2, x2, t2, acc, outs, hacc, hrv, hlen, hrest⟩
        have S2 : Sb (nw Z H H1) H2 := (nw_sub _ _ _).trans x2.ke
        by_cases hlt : i < ds.length
        · right
          obtain ⟨hgo, hy⟩ := iok.go i H2 S2 hlt
          rw [List.drop_eq_getElem_cons hlt] at hrest
          refine ⟨hgo, fun H' => i + 1 ≤ ds.length ∧ Ex H1 H' ∧ LamX.Tabs Tb H' ∧ ∃ acc outs, H' D = some (.lst acc) ∧ RVs K (rm (nw Z H H') D) outs acc ∧ outs.length ≤ i + 1 ∧ (fmR (lcItem st mt me (wipeE en vs)) (ds.drop (i + 1))).bind (fun ys => .ok (outs ++ ys)) = .ok xs, ?_, ?_⟩
          · rintro H' ⟨h1, h2, h3, h4⟩
            exact ⟨ds.length - (i + 1), by omega, rfl, h1, h2, h3, h4⟩
          · intro x H3 hyld
            obtain ⟨sm, d, hd2, rv⟩ := hy x H3 hyld
            rw [List.getElem?_eq_getElem hlt] at hd2
            cases hd2
            have x3 := Ex.of_same sm
            have t3 := t2.ext sm
            have hacc3 : H3 D = some (.lst acc) := sm _ _ hacc
            have xH3 : Ex H H3 := (x1.trans x2).trans x3
            have w3 := (w.extO xH3 t3 hD0).wipe vs hv
            have z3 : Sb (nw (nw Z H H1) H2 H3) (rm (nw Z H H3) D) := fun b o e1 e2 => by
              obtain ⟨f1, f2, f3⟩ := nw_of e1
              have hb : b ≠ D := fun z => by
                subst z
                rw [hacc3] at f1
                cases f1
                rcases f3 with ⟨xs, z⟩ | ⟨u, z, _⟩ | z
                · cases z
                · exact sD _ z
                · rw [hacc] at z; cases z
              rw [rm_ne hb]
              rcases f3 with z | ⟨u, z, zn⟩ | z
              · exact nw_mk f1 f2 (.inl z)
              · obtain ⟨g1, g2, g3⟩ := nw_of z
                have : u = o := by
                  have q := (x2.trans x3).ke b u g1 g2
                  rw [f1] at q
                  exact (Option.some.inj q).symm
                subst this
                exact nw_mk f1 f2 g3
              · exact nw_mk f1 f2 (.inr (.inr ((x1.trans x2).none z)))
            rcases fm_cons hrest with ⟨hit, hr2⟩ | ⟨yd, hit, hr2⟩
            · unfold lcItem at hit
              cases hst : st ds[i] (wipeE en vs) with
              | none => rw [hst] at hit; cases hit
              | some e1 =>
                rw [hst] at hit
                refine ⟨_, _, _, e1, w3, RV.sb z3 _ _ rv, hst, fun σ' hO w4 => ⟨wipe_same hO hsl, _, e1, w4, ?_⟩⟩
                revert hit
                dsimp only
                cases mt e1 with
                | exc x => exact fun h => by cases h
                | bad => exact fun h => by cases h
                | ok b =>
                  cases b with
                  | true =>
                    intro h
                    exfalso
                    revert h
                    dsimp only
                    cases me e1 <;> exact fun h => by cases h
                  | false =>
                    intro _ H4 x4 t4
                    have hacc4 := x4.ke _ _ hacc3 rfl
                    refine ⟨hlt, (x2.trans x3).trans x4, t4, acc, outs, hacc4, RVs.sb (rm_mono (nw_ext (x3.trans x4))) _ _ hrv, by omega, hr2⟩
            · unfold lcItem at hit
              cases hst : st ds[i] (wipeE en vs) with
              | none => rw [hst] at hit; cases hit
              | some e1 =>
                rw [hst] at hit
                refine ⟨_, _, _, e1, w3, RV.sb z3 _ _ rv, hst, fun σ' hO w4 => ⟨wipe_same hO hsl, _, e1, w4, ?_⟩⟩
                revert hit
                dsimp only
                cases mt e1 with
                | exc x => exact fun h => by cases h
                | bad => exact fun h => by cases h
                | ok b =>
                  cases b with
                  | false => exact fun h => by cases h
                  | true =>
                    intro hit H4 x4 t4
                    refine ⟨_, e1, w4.ext x4 t4, ?_⟩
                    revert hit
                    dsimp only
                    cases me e1 with
                    | exc x => exact fun h => by cases h
                    | bad => exact fun h => by cases h
                    | ok d' =>
                      intro hit y H5 x5 t5 o5
                      have hyd : d' = yd := by
                        have h3 : (R.ok (some d') : R (Option Dt)) = .ok (some yd) := hit
                        exact Option.some.inj (R.ok.inj h3)
                      subst hyd
                      have hacc5 := (x4.trans x5).ke _ _ hacc3 rfl
                      have x25 := ((x2.trans x3).trans x4).trans x5
                      have hal : acc.length < sizeLine := by
                        rw [hrv.len]
                        have := iok.len
                        omega
                      have x6 : Ex H1 (upd H5 D (.lst (acc ++ [y]))) := by
                        have sd : ∀ b, H1 b ≠ none → b ≠ D := fun b hb z => hb (z ▸ nD)
                        refine ⟨fun b o e1 e2 => ?_, fun b ps e1 => ?_⟩
                        · rw [upd_ne (sd b (by rw [e1]; simp))]
                          exact x25.ke b o e1 e2
                        · rw [upd_ne (sd b (by rw [e1]; simp))]
                          exact x25.tb b ps e1
                      have same6 : ∀ b, b ≠ D → (upd H5 D (.lst (acc ++ [y]))) b = H5 b := fun b hb => upd_ne hb
                      have z6 : Sb (rm (nw Z H H5) D) (rm (nw Z H (upd H5 D (.lst (acc ++ [y])))) D) := fun b o e1 e2 => by
                        have hb : b ≠ D := fun z => by subst z; rw [rm_same] at e1; cases e1
                        rw [rm_ne hb] at e1 ⊢
                        obtain ⟨f1, f2, f3⟩ := nw_of e1
                        exact nw_mk (by rw [same6 b hb]; exact f1) f2 f3
                      refine ⟨acc, hacc5, hal, hlt, x6, tabs_upd t5 hacc5, acc ++ [y], outs ++ [d'], upd_same, ?_, by simp; omega, hr2⟩
                      refine RVs.app (RVs.sb ((rm_mono (nw_ext ((x3.trans x4).trans x5))).trans z6) _ _ hrv) (RVs.one ?_)
                      have o6 : RV K (nw (nw (rm (nw Z H H3) D) H3 H4) H4 H5) d' y := by
                        cases fe with
                        | z => exact o5
                        | t => cases hfe
                        | own => exact Out.z o5
                      refine RV.sb ((nw_nw x4 x5).trans (Sb.trans (fun b o e1 e2 => ?_) z6)) _ _ o6
                      obtain ⟨f1, f2, f3⟩ := nw_of e1
                      have hb : b ≠ D := fun z => by
                        subst z
                        rw [hacc5] at f1
                        cases f1
                        rcases f3 with ⟨xs, z⟩ | ⟨u, z, _⟩ | z
                        · cases z
                        · rw [rm_same] at z; cases z
                        · rw [hacc3] at z; cases z
                      rw [rm_ne hb]
                      rcases f3 with z | ⟨u, z, zn⟩ | z
                      · exact nw_mk f1 f2 (.inl z)
                      · rw [rm_ne hb] at z
                        obtain ⟨g1, g2, g3⟩ := nw_of z
                        have : u = o := by
                          have q := (x4.trans x5).ke b u g1 g2
                          rw [f1] at q
                          exact (Option.some.inj q).symm
                        subst this
                        exact nw_mk f1 f2 g3
                      · exact nw_mk f1 f2 (.inr (.inr (xH3.none z)))
        · left
          have hn : i = ds.length := by omega
          refine ⟨iok.stop i H2 S2 hn, ?_⟩
          rw [List.drop_of_length_le (Nat.le_of_eq hn.symm)] at hrest
          have hx : outs = xs := by
            have h3 : (R.ok (outs ++ []) : R (List Dt)) = .ok xs := hrest
            have h4 := R.ok.inj h3
            rw [List.append_nil] at h4
            exact h4
          subst hx
          exact hm _ H2 (x1.trans x2) t2 ⟨D, rfl, hD0, acc, hacc, hrv⟩
theorem vq_lc {fe : Fl} {ifs : List Expr} {scope : Scope} {own : List (Str × Nat)} {sl : List Nat} {mi : En → R (List Dt)} {st : Dt → En → Option En} {mt : En → R Bool} (hc : X.calm = true) (hN : X.N.Nodup) (hi : VI X Tb C E G mi tg iter) (ok : BlkOk X.N X.env.scope scope own)
    (hg : ∀ (s : Shared) (H : Hp) (D : Addr) (cl : List (Str × Addr)) (fp : List Addr), VG (X.blk s H scope (compEnvC scope cl D X.env) fp) Tb C (wipeG G (own.map (·.2))) Gb sl st tg)
    (ht : ∀ (s : Shared) (H : Hp) (D : Addr) (cl : List (Str × Addr)) (fp : List Addr), VTs (X.blk s H scope (compEnvC scope cl D X.env) fp) Tb C E00 Gb mt ifs)
    (he : ∀ (s : Shared) (H : Hp) (D : Addr) (cl : List (Str × Addr)) (fp : List Addr), VQ (X.blk s H scope (compEnvC scope cl D X.env) fp) Tb C E00 Gb fe me elt) (hfe : fe.t? = false)
    (hv : ∀ i ∈ own.map (·.2), i < G.length) (hsl : ∀ i ∈ sl, i ∈ own.map (·.2)) (hs : ∀ x, foldedSetIterable iter X.env x = pure x := by intro _; rfl) :
    VQ X Tb C E G .own (qLC mi (own.map (·.2)) st mt me) (.ListComp elt [⟨tg, iter, ifs, 0⟩] scope pos) :=
  PE.weak (pe_lc (g := tG X.K Tb C (wipeG G (own.map (·.2))) Gb sl st) (tt := tB X.K Tb C E00 Gb mt) (te := tQ X.K Tb C E00 Gb fe me) hc hN hi ok hg ht he hs) fun σ H Q _ hq => lc_w hfe hv hsl hq
/-- x = [..], written on one line -/
theorem vs_setLc (i : Nat) {fe : Fl} {y : Str} {py spos : Pos} {ifs : List Expr} {scope : Scope} {own : List (Str × Nat)} {sl : List Nat} {mi : En → R (List Dt)} {st : Dt → En → Option En} {mt : En → R Bool} (hc : X.calm = true) (hN : X.N.Nodup) (hi : VI X Tb C E G mi tg iter) (ok : BlkOk X.N X.env.scope scope own)
    (hg : ∀ (s : Shared) (H : Hp) (D : Addr) (cl : List (Str × Addr)) (fp : List Addr), VG (X.blk s H scope (compEnvC scope cl D X.env) fp) Tb C (wipeG G (own.map (·.2))) Gb sl st tg)
    (ht : ∀ (s : Shared) (H : Hp) (D : Addr) (cl : List (Str × Addr)) (fp : List Addr), VTs (X.blk s H scope (compEnvC scope cl D X.env) fp) Tb C E00 Gb mt ifs)
    (he : ∀ (s : Shared) (H : Hp) (D : Addr) (cl : List (Str × Addr)) (fp : List Addr), VQ (X.blk s H scope (compEnvC scope cl D X.env) fp) Tb C E00 Gb fe me elt) (hfe : fe.t? = false)
    (hv : ∀ i ∈ own.map (·.2), i < G.length) (hsl : ∀ i ∈ sl, i ∈ own.map (·.2)) (hsw : swapsWith (.ListComp elt [⟨tg, iter, ifs, 0⟩] scope pos) (some (.Name y py)) spos.line X.env = pure true := by rfl)
    (hy : X.N[i]? = some y := by rfl) (hyl : X.env.scope.names.lookup y = some .local := by rfl) (hlt : i < G.length := by first | decide | exact of_decide_eq_true rfl) (hs : ∀ x, foldedSetIterable iter X.env x = pure x := by intro _; rfl) :
    VS X Tb C E f0 G (G.set i .own) Gl (sSet i (qLC mi (own.map (·.2)) st mt me)) (.Assign [.Name y py] (.ListComp elt [⟨tg, iter, ifs, 0⟩] scope pos) spos) :=
  PS.weak (ps_setLc (i := i) (g := tG X.K Tb C (wipeG G (own.map (·.2))) Gb sl st) (tt := tB X.K Tb C E00 Gb mt) (te := tQ X.K Tb C E00 Gb fe me) hc hN hy hyl hsw hi ok hg ht he hs) fun D σ H _ hq => by
    refine lc_w hfe hv hsl ?_
    obtain ⟨Z, en, w, hm⟩ := hq
    refine ⟨Z, en, w, ?_⟩
    unfold sSet at hm
    revert hm
    cases qLC mi (own.map (·.2)) st mt me en with
    | exc x => exact fun hm => EXC.toS w.g hm
    | bad => exact fun hm => hm
    | ok d =>
      intro hm v H' x t o
      obtain ⟨Z', s', w'⟩ := w.setO x t hlt o
      exact hm _ _ _ s' w'
end
end VL
namespace VL
open PySem PySem.Spec PyProof.Rows L2
/-! ### a def from its body -/
/-- the slots at the entry -/
def entG (n k : Nat) : List SM := List.replicate n .z ++ List.replicate k .dead
def entE (ds : List Dt) (k : Nat) : En := ds ++ List.replicate k .none
def fin (r : RS) : R Dt := match r with
  | .nx _ => .ok .none
  | .rt d _ => .ok d
  | .exc x => .exc x
  | _ => .bad
theorem entG_get {n k i : Nat} {m : SM} (h : (entG n k)[i]? = some m) : (i < n ∧ m = .z) ∨ (n ≤ i ∧ i < n + k ∧ m = .dead) := by
  unfold entG at h
  by_cases hi : i < n
  · rw [List.getElem?_append_left (by simpa using hi), List.getElem?_replicate] at h
    simp [hi] at h
    exact .inl ⟨hi, h.symm⟩
  · rw [List.getElem?_append_right (by simp; omega), List.getElem?_replicate] at h
    simp at h
    exact .inr ⟨by omega, by omega, h.2.symm⟩
theorem wf_start {K : Kf} {Tb : Tbs} {H S : Hp} {ds : List Dt} {vs : List V} {N : List Str} {n k : Nat} (hn : ds.length = n) (hN : N.length = n + k) (r : RVs K S ds vs) (s : Sb S H) (tb : LamX.Tabs Tb H) : Wf K Tb ⟨H, S, none⟩ (entG n k) S (entE ds k) (L2.start N vs) H where
  g := ⟨s, Sb.refl _, fun a o h _ => .inl h, fun a o h _ _ => h, fun a ps h => ⟨ps, h⟩, fun a (h : (none : Option Addr) = some a) => (nomatch h), tb⟩
  sl := fun i m hm => by
    have hvl := r.len
    unfold L2.start entE
    rcases entG_get hm with ⟨hi, rfl⟩ | ⟨hi, h2, rfl⟩
    · have hd : ds[i]? = some ds[i] := List.getElem?_eq_getElem (by omega)
      obtain ⟨v, e1, e2⟩ := r.get hd
      refine ⟨some v, ?_, v, rfl, ?_⟩
      · rw [List.getElem?_append_left (by simp; omega), List.getElem?_map, e1]
        rfl
      · rw [List.getD_eq_getElem?_getD, List.getElem?_append_left (by omega), hd]
        exact e2
    · refine ⟨none, ?_, trivial⟩
      rw [List.getElem?_append_right (by simp; omega), List.getElem?_replicate]
      simp
      omega
  ap := fun i j a _ h => by
    rcases entG_get h with ⟨_, h⟩ | ⟨_, _, h⟩ <;> cases h
  le := by unfold entE entG; simp [hn]
  ls := by
    have hvl := r.len
    unfold L2.start entG
    simp
    omega
theorem Ret.out {K : Kf} {Tb : Tbs} {H S Z' H' : Hp} {f0 : Fl} {d : Dt} {v : V} (g : WfG Tb ⟨H, S, none⟩ Z' H') (h : Ret K ⟨H, S, none⟩ f0 Z' H' d v) (hf : f0.t? = false) : Out K f0 S H H' d v := by
  have zs : Sb Z' (nw S H H') := fun a o e n => by
    refine nw_mk (g.zh a o e n) n ?_
    rcases g.fr a o e n with h1 | h1 | h1
    · exact .inr (.inl ⟨o, h1, n⟩)
    · exact .inr (.inr h1)
    · exact .inl h1
  cases f0 with
  | z => exact RV.sb zs _ _ h
  | t => cases hf
  | own =>
    obtain ⟨a, e, h1, h2, h3⟩ := h
    refine ⟨a, e, h1, h3.mono (fun b o e1 e2 => ?_) fun o q _ => q⟩
    have hb : b ≠ a := fun z => by subst z; rw [h2] at e1; cases e1
    rw [rm_ne hb]
    exact zs b o e1 e2
theorem WfG.ex {Tb : Tbs} {H S Z' H' : Hp} (g : WfG Tb ⟨H, S, none⟩ Z' H') : Ex H H' := ⟨fun a o e n => g.ke a o e n (by intro h; cases h), g.kt⟩
section
variable {P : Program} {w : World} {K : Kf} {mg : Str → Option Value} {base : Heap} {Tb : Tbs}
/-- what a def's context gives to the rules -/
structure Bd (X : Cx) (E : XK) (k : Nat) : Prop where
  calm : X.calm = true
  tk : Takes X (fun cls d _ H => E cls d H)
  po : PassesOwn (model X.prog X.w) X.A X.env X.xe
  px : Passes (L2.CX X.prog X.w) X E
  rm : Room k X.A
theorem ok_def {x qual : Str} {params : Arguments} {body : List Stmt} {scope : Scope} {f : Addr} {fd : FuncData} {N ps : List Str} {k n l : Nat} {f0 : Fl} {G' Lp : List SM} {m : List Dt → R Dt} {mb : En → RS} (F : FunD K x qual params body scope [] [] f fd) (S : FnScope N ps scope)
    (hn : ps.length = n) (hN : N.length = n + l) (hf : f0.t? = false) (hm : ∀ ds, m ds = fin (mb (entE ds l))) (hnx : f0 = .own → ∀ e e', mb e ≠ .nx e')
    (hb : ∀ (cdv : Value) (A : Around) (outer : List Env) (s : Shared) (H S : Hp) (E : XK), Bd (cxOf (L2.CX P w) P w K mg base N qual scope f cdv A outer s H E) E k → VSs (cxOf (L2.CX P w) P w K mg base N qual scope f cdv A outer s H E) Tb ⟨H, S, none⟩ E f0 (entG n l) G' Lp mb body) :
    FnOk P w K mg base (L2.CX P w) (k + 1) f fd ps (spF K Tb f0 n m) := by
  refine F.ok S (fun vs H Q E h => ?_) (fun cdv A outer s H vs Q E hr h => ?_)
  · obtain ⟨ds, S, h1, h2, _⟩ := h
    rw [h2.len, h1, hn]
  · obtain ⟨ds, Z0, h1, h2, h3, h4, h5⟩ := h
    refine ⟨_, hb cdv A outer s H Z0 E ⟨rfl, takes_of rfl rfl rfl rfl, passes_of rfl, passes_call (takes_of rfl rfl rfl rfl) (fun _ _ _ _ h => h), hr⟩, ?_⟩
    refine ⟨Z0, entE ds l, wf_start h1 hN h2 h3 h4, ?_⟩
    rw [hm] at h5
    revert h5
    cases hms : mb (entE ds l) with
    | nx e' =>
      intro h5 σ' Z' H' _ w'
      refine h5 .non H' w'.g.ex w'.g.tb ?_
      cases f0 with
      | z => rfl
      | t => cases hf
      | own => exact (hnx rfl _ _ hms).elim
    | bk e' => exact fun h5 => h5.elim
    | ct e' => exact fun h5 => h5.elim
    | rt d e' => exact fun h5 v Z' H' g _ r => h5 v H' g.ex g.tb (r.out g hf)
    | exc y => exact fun h5 dx Z' H' g a => h5 dx H' g.ex g.tb a
    | bad => exact fun h5 => h5
end
end VL
namespace VL
open PySem PySem.Spec PyProof.Rows L2
section
variable {K : Kf} {X : Cx}
theorem same_upd {H : Hp} {p : Addr} {o : HO} (n : H p = none) : Same H (upd H p o) := fun b z e => by rw [upd_ne (ne_of_none e n)]; exact e
theorem rv_int {S : Hp} {d : Dt} {i : Int} (h : d = .int i) {v : V} (r : RV K S d v) : v = .int i := by subst h; exact r
theorem nw_at {S H : Hp} {p : Addr} {o : HO} (n : H p = none) (hn : nt o = true) : nw S H (upd H p o) p = some o := nw_mk upd_same hn (.inr (.inr n))
theorem out_tup {S H : Hp} {p : Addr} {ds : List Dt} {xs : List V} (s : Sb S H) (n : H p = none) (r : RVs K S ds xs) : Out K .z S H (upd H p (.tup xs)) (.tuple ds) (.ref p) :=
  ⟨p, xs, rfl, .inl (.inl (nw_at n rfl)), RVs.sb (nw_s (s.trans (Ex.of_same (same_upd n)).ke)) _ _ r⟩
theorem out_lst {S H : Hp} {p : Addr} {ds : List Dt} {xs : List V} (s : Sb S H) (n : H p = none) (r : RVs K S ds xs) : Out K .own S H (upd H p (.lst xs)) (.list ds) (.ref p) := by
  refine ⟨p, rfl, n, xs, upd_same, RVs.sb (fun b o e h => ?_) _ _ r⟩
  have hb : b ≠ p := fun z => by
    subst z
    rw [s b o e h] at n
    cases n
  rw [rm_ne hb]
  exact nw_s (s.trans (Ex.of_same (same_upd n)).ke) b o e h
theorem out_z {S H : Hp} {d : Dt} {v : V} (s : Sb S H) (r : RV K S d v) : Out K .z S H H d v := RV.sb (nw_s s) _ _ r
/-! ### sums -/
def addD : Dt → Dt → Option Dt
  | .int i, .int j => some (.int (i + j))
  | .str a, .str b => if a.length + b.length ≤ sizeLine then some (.str (a ++ b)) else none
  | .tuple a, .tuple b => if a.length + b.length ≤ sizeLine then some (.tuple (a ++ b)) else none
  | _, _ => none
def rAdd (K : Kf) : R2 := fun x y H Q => ((∃ i j, x = .int i ∧ y = .int j ∧ Q (.int (i + j)) H) ∨ (∃ i j, x = .str i ∧ y = .str j ∧ i.length + j.length ≤ sizeLine ∧ Q (.str (i ++ j)) H)) ∨ rCatA K x y H Q
theorem op_addA : OpR X (binaryOp .Add) (rAdd X.K) := (op_add.or op_add_str).or op_catA
theorem addD_ok : OpD K .z addD (rAdd K) := fun S H d1 d2 x y d Q fit s r1 r2 e k => by
  unfold addD at e
  split at e
  · cases e; cases r1; cases r2
    exact .inl (.inl ⟨_, _, rfl, rfl, k _ H (Same.refl _) rfl⟩)
  · split at e
    · rename_i hl
      cases e; cases r1; cases r2
      exact .inl (.inr ⟨_, _, rfl, rfl, hl, k _ H (Same.refl _) rfl⟩)
    · cases e
  · split at e
    · rename_i hl
      cases e
      obtain ⟨a, xs, rfl, h1, h2⟩ := r1
      obtain ⟨b, ys, rfl, h3, h4⟩ := r2
      refine .inr ⟨a, b, xs, ys, rfl, rfl, SqT.sb s h1, SqT.sb s h3, by rw [h2.len, h4.len]; exact hl, fun he => ?_, fun _ he => ?_, fun _ _ p np => ?_⟩
      · subst he
        refine k _ H (Same.refl _) (out_z s ⟨b, ys, rfl, h3, ?_⟩)
        have := h2.app h4
        exact this
      · subst he
        refine k _ H (Same.refl _) (out_z s ⟨a, xs, rfl, h1, ?_⟩)
        have := h2.app h4
        rw [List.append_nil] at this
        exact this
      · exact k _ _ (same_upd np) (out_tup s np (h2.app h4))
    · cases e
  · cases e
def addL : Dt → Dt → Option Dt
  | .list a, .list b => if a.length + b.length ≤ sizeLine then some (.list (a ++ b)) else none
  | _, _ => none
theorem addL_ok : OpD K .own addL rCat := fun S H d1 d2 x y d Q fit s r1 r2 e k => by
  unfold addL at e
  split at e
  · split at e
    · rename_i hl
      cases e
      obtain ⟨a, xs, rfl, h1, h2⟩ := r1
      obtain ⟨b, ys, rfl, h3, h4⟩ := r2
      exact ⟨a, b, xs, ys, rfl, rfl, s _ _ h1 rfl, s _ _ h3 rfl, by rw [h2.len, h4.len]; exact hl, fun p np => k _ _ (same_upd np) (out_lst s np (h2.app h4))⟩
    · cases e
  · cases e
/-! ### other arithmetic -/
def subD : Dt → Dt → Option Dt
  | .int i, .int j => some (.int (i - j))
  | _, _ => none
theorem subD_ok : OpD K .z subD (rI0 fun i j => .int (i - j)) := fun S H d1 d2 x y d Q fit s r1 r2 e k => by
  unfold subD at e
  split at e
  · cases e; cases r1; cases r2
    exact ⟨_, _, rfl, rfl, k _ H (Same.refl _) rfl⟩
  · cases e
instance (i j : Int) : Decidable (CMul i j) := by unfold CMul; infer_instance
instance (i j : Int) : Decidable (CDiv i j) := by unfold CDiv; infer_instance
instance (i j : Int) : Decidable (CPow i j) := by unfold CPow; infer_instance
def mulD : Dt → Dt → Option Dt
  | .int i, .int j => if CMul i j then some (.int (i * j)) else none
  | .tuple a, .int k => if a ≠ [] ∧ 2 ≤ k ∧ k ≤ 1000 ∧ a.length ≤ 1000 then some (.tuple (List.replicate k.toNat a).flatten) else if (a = [] ∨ k = 1) ∧ -(2 ^ 63) ≤ k ∧ k < 2 ^ 63 then some (.tuple a) else if a ≠ [] ∧ k ≤ 0 ∧ -(2 ^ 63) ≤ k then some (.tuple []) else none
  | _, _ => none
/-- a tuple once, or the empty one: itself -/
theorem tuple_mul1 (l : Addr) (items : Array Value) (n : Nat) (dd : Option Addr) (sl : Array (Option Value)) (x : Int) (u : Tok) (c0 : (decide (x < -(2 ^ 63)) || decide (x ≥ 2 ^ 63)) = false) (c1 : (items.isEmpty || x == 1) = true) :
    Meets (Builtin.«tuple.__mul__» ⟨[.ref l, .int x u], []⟩) (fun _ R s => s.heap.get? l = some { cls := .type "tuple", dict := dd, data := .seq items n, slots := sl } ∧ R (.ok (.ret (Value.ref l))) s) :=
  .of_wp fun prog w A R s h => by
    obtain ⟨hp, g, d, tk, os⟩ := s
    obtain ⟨hl, h⟩ := h
    have f1 := AutoSeq1.idx_int
    wp_walk using wpAny_loadPart' hl
    repeat (first
      | (refine wpAny_ite_false (decide_eq_false (by rw [c0]; exact Bool.false_ne_true)) ?_; wp_walk using wpAny_loadPart' hl)
      | (refine wpAny_ite_true (decide_eq_true c1) ?_; wp_walk using wpAny_loadPart' hl))
    exact ⟨_, rfl, h⟩
theorem tuple_mul0 (l : Addr) (items : Array Value) (n : Nat) (dd : Option Addr) (sl : Array (Option Value)) (x : Int) (u : Tok) (c0 : (decide (x < -(2 ^ 63)) || decide (x ≥ 2 ^ 63)) = false) (c1 : (items.isEmpty || x == 1) = false) (c2 : (decide (x ≤ 0) || items.isEmpty) = true) :
    Meets (Builtin.«tuple.__mul__» ⟨[.ref l, .int x u], []⟩) (fun _ R s => s.heap.get? l = some { cls := .type "tuple", dict := dd, data := .seq items n, slots := sl } ∧
      R (.ok (.ret (Value.ref s.heap.objs.size))) { s with heap := s.heap.push { cls := Value.type "tuple", data := Data.seq #[] }, toks := s.toks }) :=
  .of_wp fun prog w A R s h => by
    obtain ⟨hp, g, d, tk, os⟩ := s
    obtain ⟨hl, h⟩ := h
    have f1 := AutoSeq1.idx_int
    wp_walk using wpAny_loadPart' hl
    repeat (first
      | (refine wpAny_ite_false (decide_eq_false (by rw [c0]; exact Bool.false_ne_true)) ?_; wp_walk using wpAny_loadPart' hl)
      | (refine wpAny_ite_false (decide_eq_false (by rw [c1]; exact Bool.false_ne_true)) ?_; wp_walk using wpAny_loadPart' hl)
      | (refine wpAny_ite_true (decide_eq_true c2) ?_; wp_walk using wpAny_loadPart' hl))
    exact ⟨_, rfl, h⟩
def rMul1 (K : Kf) : R2 := fun x y H Q => ∃ l k xs, x = .ref l ∧ y = .int k ∧ SqT K H l xs ∧ -(2 ^ 63) ≤ k ∧ k < 2 ^ 63 ∧ (((xs = [] ∨ k = 1) ∧ Q (.ref l) H) ∨ (xs ≠ [] ∧ k ≤ 0 ∧ ∀ p, H p = none → Q (.ref p) (upd H p (.tup []))))
theorem op_mul1 : OpR X (binaryOp .Mult) (rMul1 X.K) := by
  intro pins s σ H x y v u Q I rx ry h
  obtain ⟨l, k, xs, rfl, rfl, hT, h1, h2, h3⟩ := h
  cases rx
  obtain ⟨t, rfl⟩ := ry
  obtain ⟨its, r, ⟨⟨cls, dd, data, sl⟩, ho, hc, n, hd⟩, hs⟩ := I.tuple hT
  simp only at hc hd
  subst hc hd
  have hle : its.length = xs.length := r.length.symm
  have c0 : (decide (k < -(2 ^ 63)) || decide (k ≥ 2 ^ 63)) = false := by
    rw [decide_eq_false (by omega), decide_eq_false (by omega)] <;> rfl
  have em : its.toArray.isEmpty = decide (xs = []) := by
    cases its with
    | nil =>
      have : xs = [] := List.eq_nil_of_length_eq_zero (by simpa using hle.symm)
      rw [decide_eq_true this]
      rfl
    | cons a b =>
      have : xs ≠ [] := fun z => by rw [z] at hle; simp at hle
      rw [decide_eq_false this]
      rfl
  rcases h3 with ⟨hx, q⟩ | ⟨hx, hk, q⟩
  · have c1 : (its.toArray.isEmpty || k == 1) = true := by
      rw [em]
      rcases hx with hx | hx
      · rw [decide_eq_true hx]; rfl
      · rw [hx, Bool.or_eq_true]; exact .inr rfl
    exact wpAny_binaryOp_repeat_ref (T := "tuple") (U := "int") (by decide) ⟨_, ho, rfl⟩ (fun s' => typeIs_int s' k t) noFill_tuple_mul PySem.F.fills_int_mul PySem.F.slot_int_rmul repeat_tuple PySem.F.slot_int_index.lookup
      (call_meets PySem.F.slot_int_rmul (typeIs_int s k t) PySem.F.entry_int_rmul (PySem.F.args_int_rmul_2 _ _) (int_rmul_tuple k t l its.toArray n dd sl)
        ⟨ho, rfl, ⟨_, ho, rfl⟩, call_meets PySem.F.slot_tuple_mul ⟨_, ho, rfl⟩ PySem.F.entry_tuple_mul (PySem.F.args_tuple_mul_2 _ _) (tuple_mul1 l its.toArray n dd sl k t c0 c1) ⟨ho, ⟨.ref l, H, I, rfl, q⟩⟩⟩)
  · have c1 : (its.toArray.isEmpty || k == 1) = false := by
      rw [em, decide_eq_false hx, Bool.false_or]
      exact beq_eq_false_iff_ne.mpr (by omega)
    have c2 : (decide (k ≤ 0) || its.toArray.isEmpty) = true := by
      rw [decide_eq_true hk]; rfl
    exact wpAny_binaryOp_repeat_ref (T := "tuple") (U := "int") (by decide) ⟨_, ho, rfl⟩ (fun s' => typeIs_int s' k t) noFill_tuple_mul PySem.F.fills_int_mul PySem.F.slot_int_rmul repeat_tuple PySem.F.slot_int_index.lookup
      (call_meets PySem.F.slot_int_rmul (typeIs_int s k t) PySem.F.entry_int_rmul (PySem.F.args_int_rmul_2 _ _) (int_rmul_tuple k t l its.toArray n dd sl)
        ⟨ho, rfl, ⟨_, ho, rfl⟩, call_meets PySem.F.slot_tuple_mul ⟨_, ho, rfl⟩ PySem.F.entry_tuple_mul (PySem.F.args_tuple_mul_2 _ _) (tuple_mul0 l its.toArray n dd sl k t c0 c1 c2) ⟨ho,
          ⟨.ref s.heap.objs.size, _, I.laid (t' := s.toks) (o := .tup []) (fun b ob q => Heap.get?_push_of_some _ q) (Nat.le_refl _) ⟨by decide, [], .nil, IsTup.new _ _⟩, rfl, q _ (I.hok.fresh (Nat.le_refl _))⟩⟩⟩)
def rMul (K : Kf) : R2 := fun x y H Q => (rI CMul (fun i j => .int (i * j)) x y H Q ∨ rRepT K x y H Q) ∨ rMul1 K x y H Q
theorem op_mulA : OpR X (binaryOp .Mult) (rMul X.K) := (op_mul.or op_repT).or op_mul1
theorem RVs.rep {S : Hp} {ds : List Dt} {xs : List V} (h : RVs K S ds xs) : ∀ n : Nat, RVs K S (List.replicate n ds).flatten (List.replicate n xs).flatten
  | 0 => by simp [RVs]
  | n + 1 => by
    rw [List.replicate_succ, List.replicate_succ, List.flatten_cons, List.flatten_cons]
    exact h.app (RVs.rep h n)
theorem mulD_ok : OpD K .z mulD (rMul K) := fun S H d1 d2 x y d Q fit s r1 r2 e k => by
  unfold mulD at e
  split at e
  · split at e
    · rename_i hl
      cases e; cases r1; cases r2
      exact .inl (.inl ⟨_, _, rfl, rfl, hl, k _ H (Same.refl _) rfl⟩)
    · cases e
  · split at e
    · rename_i hl
      cases e; cases r2
      obtain ⟨a, xs, rfl, h1, h2⟩ := r1
      refine .inl <| .inr ⟨a, _, xs, rfl, rfl, SqT.sb s h1, fun z => ?_, hl.2.1, hl.2.2.1, by rw [h2.len]; exact hl.2.2.2, fun p np => k _ _ (same_upd np) (out_tup s np (h2.rep _))⟩
      have := h2.len
      rw [z] at this
      exact hl.1 (List.eq_nil_of_length_eq_zero this.symm)
    · split at e
      · rename_i hl
        cases e; cases r2
        obtain ⟨a, xs, rfl, h1, h2⟩ := r1
        refine .inr ⟨a, _, xs, rfl, rfl, SqT.sb s h1, hl.2.1, hl.2.2, .inl ⟨?_, k _ H (Same.refl _) (out_z s ⟨a, xs, rfl, h1, h2⟩)⟩⟩
        rcases hl.1 with z | z
        · subst z
          cases h2
          exact .inl rfl
        · exact .inr z
      · split at e
        · rename_i hl
          cases e; cases r2
          obtain ⟨a, xs, rfl, h1, h2⟩ := r1
          refine .inr ⟨a, _, xs, rfl, rfl, SqT.sb s h1, hl.2.2, by omega, .inr ⟨fun z => ?_, hl.2.1, fun p np => k _ _ (same_upd np) (out_tup s np rfl)⟩⟩
          have := h2.len
          rw [z] at this
          exact hl.1 (List.eq_nil_of_length_eq_zero this.symm)
        · cases e
  · cases e
/-- list * int -/
def mulL : Dt → Dt → Option Dt
  | .list a, .int k => if -(2 ^ 63) ≤ k ∧ k < 2 ^ 63 ∧ a.length * k.toNat ≤ sizeLine then some (.list (List.replicate k.toNat a).flatten) else none
  | _, _ => none
theorem mulL_ok : OpD K .own mulL rRep := fun S H d1 d2 x y d Q fit s r1 r2 e k => by
  unfold mulL at e
  split at e
  · split at e
    · rename_i hl
      cases e; cases r2
      obtain ⟨a, xs, rfl, h1, h2⟩ := r1
      exact ⟨a, _, xs, rfl, rfl, s _ _ h1 rfl, hl.1, hl.2.1, by rw [h2.len]; exact hl.2.2, fun p np => k _ _ (same_upd np) (out_lst s np (h2.rep _))⟩
    · cases e
  · cases e
def fdvD : Dt → Dt → Option Dt
  | .int i, .int j => if CDiv i j then some (.int (i / j)) else none
  | _, _ => none
theorem fdvD_ok : OpD K .z fdvD (rI CDiv fun i j => .int (i / j)) := fun S H d1 d2 x y d Q fit s r1 r2 e k => by
  unfold fdvD at e
  split at e
  · split at e
    · rename_i hl
      cases e; cases r1; cases r2
      exact ⟨_, _, rfl, rfl, hl, k _ H (Same.refl _) rfl⟩
    · cases e
  · cases e
def modD : Dt → Dt → Option Dt
  | .int i, .int j => if 0 < j then some (.int (i % j)) else none
  | _, _ => none
theorem modD_ok : OpD K .z modD (rI (fun _ j => 0 < j) fun i j => .int (i % j)) := fun S H d1 d2 x y d Q fit s r1 r2 e k => by
  unfold modD at e
  split at e
  · split at e
    · rename_i hl
      cases e; cases r1; cases r2
      exact ⟨_, _, rfl, rfl, hl, k _ H (Same.refl _) rfl⟩
    · cases e
  · cases e
def powD : Dt → Dt → Option Dt
  | .int i, .int j => if CPow i j then some (.int (i ^ j.toNat)) else none
  | _, _ => none
theorem powD_ok : OpD K .z powD (rI CPow fun i j => .int (i ^ j.toNat)) := fun S H d1 d2 x y d Q fit s r1 r2 e k => by
  unfold powD at e
  split at e
  · split at e
    · rename_i hl
      cases e; cases r1; cases r2
      exact ⟨_, _, rfl, rfl, hl, k _ H (Same.refl _) rfl⟩
    · cases e
  · cases e
/-! ### comparisons of ints -/
def cmpI (f : Int → Int → Bool) : Dt → Dt → Option Dt
  | .int i, .int j => some (.bool (f i j))
  | _, _ => none
theorem cmpI_ok (f : Int → Int → Bool) : OpD K .z (cmpI f) (rI0 fun i j => .bl (f i j)) := fun S H d1 d2 x y d Q fit s r1 r2 e k => by
  unfold cmpI at e
  split at e
  · cases e; cases r1; cases r2
    exact ⟨_, _, rfl, rfl, k _ H (Same.refl _) rfl⟩
  · cases e
def ltD := cmpI fun i j => decide (i < j)
def leD := cmpI fun i j => decide (i ≤ j)
def gtD := cmpI fun i j => decide (j < i)
def geD := cmpI fun i j => decide (j ≤ i)
theorem ltD_ok : OpD K .z ltD (rI0 fun i j => .bl (decide (i < j))) := cmpI_ok _
theorem leD_ok : OpD K .z leD (rI0 fun i j => .bl (decide (i ≤ j))) := cmpI_ok _
theorem gtD_ok : OpD K .z gtD (rI0 fun i j => .bl (decide (j < i))) := cmpI_ok _
theorem geD_ok : OpD K .z geD (rI0 fun i j => .bl (decide (j ≤ i))) := cmpI_ok _
/-! ### is -/
def isN : Dt → Dt → Option Dt
  | .none, .none => some (.bool true)
  | _, .none => some (.bool false)
  | _, _ => none
def isNN : Dt → Dt → Option Dt
  | .none, .none => some (.bool false)
  | _, .none => some (.bool true)
  | _, _ => none
theorem rv_non {S : Hp} {d : Dt} {v : V} (r : RV K S d v) : v = .non ↔ d = .none := by
  cases d with
  | none => cases r; simp
  | bool b => cases r; simp
  | int b => cases r; simp
  | str b => cases r; simp
  | list b => obtain ⟨a, xs, rfl, _⟩ := r; simp
  | tuple b => obtain ⟨a, xs, rfl, _⟩ := r; simp
  | dict b => obtain ⟨a, rfl, _⟩ := r; simp
theorem isN_ok : OpD K .z isN rIsN := fun S H d1 d2 x y d Q fit s r1 r2 e k => by
  have hx := rv_non r1
  unfold isN at e
  split at e
  · cases e; cases r1; cases r2
    exact ⟨rfl, k _ H (Same.refl _) rfl⟩
  · rename_i hn
    cases e; cases r2
    refine ⟨rfl, k _ H (Same.refl _) ?_⟩
    have : ¬ x = .non := fun z => hn (hx.mp z)
    show V.bl _ = V.bl _
    simp [this]
  · cases e
theorem isNN_ok : OpD K .z isNN rNotN := fun S H d1 d2 x y d Q fit s r1 r2 e k => by
  have hx := rv_non r1
  unfold isNN at e
  split at e
  · cases e; cases r1; cases r2
    exact ⟨rfl, k _ H (Same.refl _) rfl⟩
  · rename_i hn
    cases e; cases r2
    refine ⟨rfl, k _ H (Same.refl _) ?_⟩
    have : ¬ x = .non := fun z => hn (hx.mp z)
    show V.bl _ = V.bl _
    simp [this]
  · cases e
def isB : Dt → Dt → Option Dt
  | .bool a, .bool b => some (.bool (decide (a = b)))
  | _, .bool _ => some (.bool false)
  | _, _ => none
def isNB : Dt → Dt → Option Dt
  | .bool a, .bool b => some (.bool (!decide (a = b)))
  | _, .bool _ => some (.bool true)
  | _, _ => none
def rIsA : R2 := fun x y H Q => rIsB x y H Q ∨ ∃ b, y = .bl b ∧ ((∃ i, x = .int i) ∨ (∃ z, x = .str z) ∨ (∃ a, x = .ref a) ∨ x = .non) ∧ Q (.bl false) H
def rNotA : R2 := fun x y H Q => rNotB x y H Q ∨ ∃ b, y = .bl b ∧ ((∃ i, x = .int i) ∨ (∃ z, x = .str z) ∨ (∃ a, x = .ref a) ∨ x = .non) ∧ Q (.bl true) H
theorem op_isA : OpR X (compareOp .Is) rIsA := by
  intro pins s σ H x y v u Q I rx ry h
  rcases h with h | ⟨b, rfl, h, q⟩
  · exact op_isBl pins s σ H x y v u Q I rx ry h
  · cases (show u = Value.bool b from ry)
    rcases h with ⟨i, rfl⟩ | ⟨z, rfl⟩ | ⟨a, rfl⟩ | rfl
    · obtain ⟨t, rfl⟩ := rx
      exact wpAny_is_other rfl (fun z => by cases z) ⟨.bl false, H, I, rfl, q⟩
    · obtain ⟨t, rfl⟩ := rx
      exact wpAny_is_other rfl (fun z => by cases z) ⟨.bl false, H, I, rfl, q⟩
    · cases rx
      exact wpAny_is_other rfl (fun z => by cases z) ⟨.bl false, H, I, rfl, q⟩
    · cases rx
      exact wpAny_is_other rfl (fun z => by cases z) ⟨.bl false, H, I, rfl, q⟩
theorem op_notA : OpR X (compareOp .IsNot) rNotA := by
  intro pins s σ H x y v u Q I rx ry h
  rcases h with h | ⟨b, rfl, h, q⟩
  · exact op_notBl pins s σ H x y v u Q I rx ry h
  · cases (show u = Value.bool b from ry)
    rcases h with ⟨i, rfl⟩ | ⟨z, rfl⟩ | ⟨a, rfl⟩ | rfl
    · obtain ⟨t, rfl⟩ := rx
      exact wpAny_isNot_other rfl (fun z => by cases z) ⟨.bl true, H, I, rfl, q⟩
    · obtain ⟨t, rfl⟩ := rx
      exact wpAny_isNot_other rfl (fun z => by cases z) ⟨.bl true, H, I, rfl, q⟩
    · cases rx
      exact wpAny_isNot_other rfl (fun z => by cases z) ⟨.bl true, H, I, rfl, q⟩
    · cases rx
      exact wpAny_isNot_other rfl (fun z => by cases z) ⟨.bl true, H, I, rfl, q⟩
theorem not_bool {S : Hp} {d : Dt} {x : V} (r : RV K S d x) (h : ∀ b, d ≠ .bool b) : (∃ i, x = .int i) ∨ (∃ z, x = .str z) ∨ (∃ a, x = .ref a) ∨ x = .non := by
  cases d with
  | none => exact .inr (.inr (.inr r))
  | bool b => exact (h b rfl).elim
  | int i => exact .inl ⟨i, r⟩
  | str z => exact .inr (.inl ⟨z, r⟩)
  | list ds => obtain ⟨a, xs, e, _⟩ := r; exact .inr (.inr (.inl ⟨a, e⟩))
  | tuple ds => obtain ⟨a, xs, e, _⟩ := r; exact .inr (.inr (.inl ⟨a, e⟩))
  | dict ds => obtain ⟨a, e, _⟩ := r; exact .inr (.inr (.inl ⟨a, e⟩))
theorem isB_ok : OpD K .z isB rIsA := fun S H d1 d2 x y d Q fit s r1 r2 e k => by
  unfold isB at e
  split at e
  · cases e; cases r1; cases r2
    exact .inl ⟨_, _, rfl, rfl, k _ H (Same.refl _) rfl⟩
  · rename_i b hne
    cases e; cases r2
    exact .inr ⟨_, rfl, not_bool r1 (fun b' z => hne b' z), k _ H (Same.refl _) rfl⟩
  · cases e
theorem isNB_ok : OpD K .z isNB rNotA := fun S H d1 d2 x y d Q fit s r1 r2 e k => by
  unfold isNB at e
  split at e
  · cases e; cases r1; cases r2
    exact .inl ⟨_, _, rfl, rfl, k _ H (Same.refl _) rfl⟩
  · rename_i b hne
    cases e; cases r2
    exact .inr ⟨_, rfl, not_bool r1 (fun b' z => hne b' z), k _ H (Same.refl _) rfl⟩
  · cases e
/-! ### equality of data -/
mutual
def noDict : Dt → Bool
  | .dict _ => false
  | .list ds => noDicts ds
  | .tuple ds => noDicts ds
  | _ => true
def noDicts : List Dt → Bool
  | [] => true
  | d :: ds => noDict d && noDicts ds
end
mutual
theorem RV.dp {S H : Hp} (s : Sb S H) : ∀ (d : Dt) (v : V), noDict d = true → RV K S d v → Dp K H v d
  | .none, v, _, r => by cases r; exact .non
  | .bool b, v, _, r => by cases r; exact .bl _
  | .int b, v, _, r => by cases r; exact .int _
  | .str b, v, _, r => by cases r; exact .str _
  | .list ds, v, h, r => by
    obtain ⟨a, xs, rfl, h1, h2⟩ := r
    exact .lst (.inl (.inl (s _ _ h1 rfl))) (RVs.dp s ds xs h h2)
  | .tuple ds, v, h, r => by
    obtain ⟨a, xs, rfl, h1, h2⟩ := r
    exact .tup (SqT.sb s h1) (RVs.dp s ds xs h h2)
  | .dict ds, v, h, r => by cases h
theorem RVs.dp {S H : Hp} (s : Sb S H) : ∀ (ds : List Dt) (vs : List V), noDicts ds = true → RVs K S ds vs → DpAll K H vs ds
  | [], vs, _, r => by cases r; exact .nil
  | d :: ds, vs, h, r => by
    obtain ⟨y, ys, rfl, h1, h2⟩ := r
    unfold noDicts at h
    rw [Bool.and_eq_true] at h
    exact .cons (RV.dp s d y h.1 h1) (RVs.dp s ds ys h.2 h2)
end
mutual
theorem noDict_of : ∀ (d : Dt), d.canLay0 = true → noDict d = true
  | .none, _ => rfl
  | .bool _, _ => rfl
  | .int _, _ => rfl
  | .str _, _ => rfl
  | .list ds, h => noDicts_of ds (by simpa [PyData.canLay0] using h)
  | .tuple ds, h => noDicts_of ds (by simpa [PyData.canLay0] using h)
  | .dict _, h => by simp [PyData.canLay0] at h
theorem noDicts_of : ∀ (ds : List Dt), PyData.canLayAll0 ds = true → noDicts ds = true
  | [], _ => rfl
  | d :: ds, h => by
    have h2 : PyData.canLay0 d = true ∧ PyData.canLayAll0 ds = true := by simpa [PyData.canLayAll0] using h
    unfold noDicts
    rw [noDict_of d h2.1, noDicts_of ds h2.2]
    rfl
end
def eqOk (d e : Dt) : Bool := SeqAt.shaped d && SeqAt.shaped e
theorem eqOk_of {d e : Dt} (h : eqOk d e = true) : noDict d = true ∧ noDict e = true ∧ SeqAt.shaped d = true ∧ SeqAt.shaped e = true := by
  unfold eqOk at h
  simp only [Bool.and_eq_true] at h
  exact ⟨noDict_of _ (SeqAt.canLay_of_shaped h.1), noDict_of _ (SeqAt.canLay_of_shaped h.2), h.1, h.2⟩
def eqD (d e : Dt) : Option Dt := if eqOk d e = true then some (.bool (PyData.eqv d e)) else none
def neD (d e : Dt) : Option Dt := if eqOk d e = true then some (.bool (!PyData.eqv d e)) else none
theorem eqD_ok : OpD K .z eqD (rEqD K) := fun S H d1 d2 x y d Q fit s r1 r2 e k => by
  unfold eqD at e
  split at e
  · rename_i h
    cases e
    obtain ⟨h1, h2, h3, h4⟩ := eqOk_of h
    exact ⟨d1, d2, RV.dp s _ _ h1 r1, RV.dp s _ _ h2 r2, h3, h4, k _ H (Same.refl _) rfl⟩
  · cases e
theorem neD_ok : OpD K .z neD (rNeD K) := fun S H d1 d2 x y d Q fit s r1 r2 e k => by
  unfold neD at e
  split at e
  · rename_i h
    cases e
    obtain ⟨h1, h2, h3, h4⟩ := eqOk_of h
    exact ⟨d1, d2, RV.dp s _ _ h1 r1, RV.dp s _ _ h2 r2, h3, h4, k _ H (Same.refl _) rfl⟩
  · cases e
theorem hu64 {X : Cx} {k : Nat} (h : Room k X.A) : X.A.units + 64 < cLine := h.units
end
end VL
namespace VL
open PySem PySem.Spec PyProof.Rows L2
section
variable {X : Cx} {K : Kf} {Tb : Tbs} {C : Cn} {E : XK} {G : List SM} {fl fa fb f0 : Fl} {a b : Expr} {ma mb : En → R Dt} {pos : Pos}
/-! ### subscripts -/
def ixD : Dt → Dt → Option Dt
  | .list ds, .int i => atI ds i
  | .tuple ds, .int i => atI ds i
  | .str z, .int i => if z.length ≤ sizeLine then (atI z.cps.toList i).map fun c => .str ⟨#[c]⟩ else none
  | _, _ => none
theorem RVs.atI {S : Hp} {ds : List Dt} {xs : List V} {i : Int} {d : Dt} (r : RVs K S ds xs) (h : L2.atI ds i = some d) : ∃ v, L2.atI xs i = some v ∧ RV K S d v := by
  unfold L2.atI at h ⊢
  rw [r.len]
  cases e : ixN ds.length i with
  | none => rw [e] at h; cases h
  | some j =>
    rw [e] at h
    obtain ⟨v, h1, h2⟩ := r.get h
    exact ⟨v, h1, h2⟩
theorem ixD_ok : OpD K .z ixD (rIx K) := fun S H d1 d2 x y d Q fit s r1 r2 e k => by
  unfold ixD at e
  split at e
  · cases r2
    obtain ⟨p, xs, rfl, h1, h2⟩ := r1
    obtain ⟨v, h3, h4⟩ := h2.atI e
    exact .inl ⟨p, xs, _, v, rfl, rfl, .inl (.inl (s _ _ h1 rfl)), h3, k _ H (Same.refl _) (out_z s h4)⟩
  · cases r2
    obtain ⟨p, xs, rfl, h1, h2⟩ := r1
    obtain ⟨v, h3, h4⟩ := h2.atI e
    exact .inr (.inl ⟨p, xs, _, v, rfl, rfl, SqT.sb s h1, h3, k _ H (Same.refl _) (out_z s h4)⟩)
  · split at e
    · rename_i hl
      cases r2
      cases r1
      rw [Option.map_eq_some_iff] at e
      obtain ⟨c, h1, rfl⟩ := e
      exact .inr (.inr ⟨_, _, c, rfl, rfl, hl, h1, k _ H (Same.refl _) rfl⟩)
    · cases e
  · cases e
theorem vq_ix (ha : VQ X Tb C E G fa ma a) (hb : VQ X Tb C E G fb mb b) (hs : PlainIx b := by intro _ _; rfl) : VQ X Tb C E G (Fl.on (fa.t? || fb.t?) .z) (q2 ixD ma mb) (.Subscript a b pos) :=
  PE.weak (pe_ix ix_seq (PE.fit ha) (PE.fit hb) hs) fun σ H Q fit hq => two_w ixD_ok hq
/-- a part of an owned list (its items lie in the frozen part) -/
def qIxV (i : Nat) (mb : En → R Dt) : En → R Dt := fun e => (mb e).bind fun y => R.ofO (ixD (e.getD i .none) y)
theorem vq_ixV (i : Nat) {x : Str} {p : Pos} (hb : VQ X Tb C E G fb mb b) (hi : (G[i]? = some .own ∨ G[i]? = some .io) := by first | exact Or.inl rfl | exact Or.inr rfl) (hs : PlainIx b := by intro _ _; rfl) (hN : X.N[i]? = some x := by rfl) (hv : Vis X.env.scope x := by first | exact Or.inl rfl | exact Or.inr (Or.inl rfl) | exact Or.inr (Or.inr rfl)) (hd : (x == ("__debug__" : Str)) = false := by decide)
    (hcd : (x == ("__classdict__" : Str)) = false := by decide) : VQ X Tb C E G .z (qIxV i mb) (.Subscript (.Name x p) b pos) :=
  PE.weak (pe_ix ix_list (pe_var hN hv hd hcd) (PE.fit hb) hs) fun σ H Q fit hq => by
    obtain ⟨Z, en, w, hm⟩ := hq
    have key : ∃ aa, σ[i]? = some (some (.ref aa)) ∧ OwnAt X.K Z H (en.getD i .none) aa := by
      rcases hi with hi | hi
      · obtain ⟨ov, h1, aa, e, r, _⟩ := w.sl i _ hi
        subst e
        exact ⟨aa, h1, r⟩
      · obtain ⟨ov, h1, aa, e, r, _⟩ := w.sl i _ hi
        subst e
        exact ⟨aa, h1, r⟩
    obtain ⟨aa, h1, r⟩ := key
    refine ⟨.ref aa, h1, fun _ => ⟨Z, en, w, ?_⟩⟩
    unfold qIxV at hm
    revert hm
    cases mb en with
    | exc x => exact fun hm => hm
    | bad => exact fun hm => hm
    | ok d2 =>
      dsimp only [R.bind]
      cases hf : ixD (en.getD i .none) d2 with
      | none => exact fun hm => hm.elim
      | some d =>
        intro hm y H1 x1 t1 o1 _
        revert hf r
        cases en.getD i .none with
        | list ds =>
          intro r hf
          cases d2 with
          | int j =>
            obtain ⟨xs, e1, e2⟩ := r
            obtain ⟨v, e3, e4⟩ := e2.atI hf
            have ey : y = .int j := o1.rv
            exact ⟨aa, xs, j, v, rfl, ey, .inl (.inl (x1.ke _ _ e1 rfl)), e3, hm v H1 x1 t1 (RV.sb (nw_s (w.g.zh.trans x1.ke)) _ _ e4)⟩
          | none => exact (nomatch (show (none : Option Dt) = some d from hf))
          | bool _ => exact (nomatch (show (none : Option Dt) = some d from hf))
          | str _ => exact (nomatch (show (none : Option Dt) = some d from hf))
          | list _ => exact (nomatch (show (none : Option Dt) = some d from hf))
          | tuple _ => exact (nomatch (show (none : Option Dt) = some d from hf))
          | dict _ => exact (nomatch (show (none : Option Dt) = some d from hf))
        | dict _ => exact fun r hf => (nomatch (show (none : Option Dt) = some d from hf))
        | none => exact fun r hf => r.elim
        | bool _ => exact fun r hf => r.elim
        | int _ => exact fun r hf => r.elim
        | str _ => exact fun r hf => r.elim
        | tuple _ => exact fun r hf => r.elim
/-! ### slices -/
def cutL {α : Type} (xs : List α) (lo hi : Option Int) : List α := (xs.drop (HT.sIx xs.length 0 lo)).take (HT.sIx xs.length xs.length hi - HT.sIx xs.length 0 lo)
theorem RVs.cut {S : Hp} {ds : List Dt} {xs : List V} (r : RVs K S ds xs) (lo hi : Option Int) : RVs K S (cutL ds lo hi) (cutV xs lo hi) := by
  unfold cutL cutV
  rw [r.len]
  exact (r.drop _).take _
def tO (K : Kf) (Tb : Tbs) (C : Cn) (E : XK) (G : List SM) (m : En → R (Option Int)) : TO := fun σ H Q =>
  ∃ Z e, Wf K Tb C G Z e σ H ∧ match m e with
    | .ok d => ∀ H', Ex H H' → LamX.Tabs Tb H' → Q d H'
    | .exc x => EXC K Tb E H x
    | .bad => False
theorem PO.weak {e : Option Expr} {t t' : TO} (h : PO X e t) (i : ∀ σ H Q, t' σ H Q → t σ H Q) : PO X e t' :=
  ⟨fun pins s σ H Q I hq => h.run pins s σ H Q I (i σ H Q hq)⟩
abbrev VO (X : Cx) (Tb : Tbs) (C : Cn) (E : XK) (G : List SM) (m : En → R (Option Int)) (e : Option Expr) : Prop := PO X e (tO X.K Tb C E G m)
def oN : En → R (Option Int) := fun _ => .ok none
def iI : Dt → R (Option Int)
  | .int i => .ok (some i)
  | _ => .bad
def oS (m : En → R Dt) : En → R (Option Int) := fun e => (m e).bind iI
theorem vo_none : VO X Tb C E G oN none := PO.weak po_none fun σ H Q hq => by
  obtain ⟨Z, en, w, hm⟩ := hq
  exact hm H (Ex.refl H) w.g.tb
theorem vo_some (h : VQ X Tb C E G fl ma a) : VO X Tb C E G (oS ma) (some a) := PO.weak (po_some h) fun σ H Q hq => by
  obtain ⟨Z, en, w, hm⟩ := hq
  refine ⟨Z, en, w, ?_⟩
  unfold oS at hm
  revert hm
  cases ma en with
  | exc x => exact fun hm => hm
  | bad => exact fun hm => hm
  | ok d =>
    cases d with
    | int i =>
      intro hm v H' x t o
      have e : v = .int i := o.rv
      exact ⟨i, e, hm H' x t⟩
    | none => exact fun hm => hm.elim
    | bool _ => exact fun hm => hm.elim
    | str _ => exact fun hm => hm.elim
    | list _ => exact fun hm => hm.elim
    | tuple _ => exact fun hm => hm.elim
    | dict _ => exact fun hm => hm.elim
def slT : Dt → Option Int → Option Int → Option Dt
  | .tuple ds, lo, hi => some (.tuple (cutL ds lo hi))
  | _, _, _ => none
def slL : Dt → Option Int → Option Int → Option Dt
  | .list ds, lo, hi => some (.list (cutL ds lo hi))
  | _, _, _ => none
def qSl (f : Dt → Option Int → Option Int → Option Dt) (ma : En → R Dt) (ml mh : En → R (Option Int)) : En → R Dt := fun e => (ma e).bind fun d => (ml e).bind fun lo => (mh e).bind fun hi => R.ofO (f d lo hi)
def SlD (K : Kf) (f0 : Fl) (f : Dt → Option Int → Option Int → Option Dt) (r : V → Option Int → Option Int → Hp → VK → Prop) : Prop := ∀ (S H : Hp) (d1 : Dt) (lo hi : Option Int) (x : V) (d : Dt) (Q : VK), Sb S H → RV K S d1 x → f d1 lo hi = some d →
  (∀ v H', Same H H' → Out K f0 S H H' d v → Q v H') → r x lo hi H Q
theorem cut_all {α : Type} (xs : List α) {lo hi : Option Int} (h : HT.sIx xs.length 0 lo = 0 ∧ HT.sIx xs.length xs.length hi = xs.length) : cutL xs lo hi = xs := by
  unfold cutL
  rw [h.1, h.2]
  simp
theorem slT_ok : SlD K .z slT (rSlA K) := fun S H d1 lo hi x d Q s r1 e k => by
  unfold slT at e
  split at e
  · cases e
    obtain ⟨p, xs, rfl, h1, h2⟩ := r1
    refine ⟨p, xs, rfl, SqT.sb s h1, fun h => ?_, fun h q nq => ?_⟩
    · rw [h2.len] at h
      refine k _ H (Same.refl _) (out_z s ?_)
      rw [cut_all _ h]
      exact ⟨p, xs, rfl, h1, h2⟩
    · exact k _ _ (same_upd nq) (out_tup s nq (h2.cut _ _))
  · cases e
theorem slL_ok : SlD K .own slL (rSlL K) := fun S H d1 lo hi x d Q s r1 e k => by
  unfold slL at e
  split at e
  · cases e
    obtain ⟨p, xs, rfl, h1, h2⟩ := r1
    exact ⟨p, xs, rfl, .inl (.inl (s _ _ h1 rfl)), fun q nq => k _ _ (same_upd nq) (out_lst s nq (h2.cut _ _))⟩
  · cases e
theorem vq_sl {f : Dt → Option Int → Option Int → Option Dt} {r : V → Option Int → Option Int → Hp → VK → Prop} {ml mh : En → R (Option Int)} {lo hi : Option Expr} {p2 : Pos} (hr : SlR X r) (hd : SlD X.K f0 f r) (ha : VQ X Tb C E G fa ma a) (hl : VO X Tb C E G ml lo) (hh : VO X Tb C E G mh hi) :
    VQ X Tb C E G (Fl.on fa.t? f0) (qSl f ma ml mh) (.Subscript a (.Slice lo hi none p2) pos) :=
  PE.weak (pe_slice hr ha hl hh) fun σ H Q fit hq => by
    obtain ⟨Z, en, w, hm⟩ := hq
    refine ⟨Z, en, w, ?_⟩
    unfold qSl at hm
    revert hm
    cases ma en with
    | exc x => exact fun hm => hm
    | bad => exact fun hm => hm
    | ok d1 =>
      dsimp only [R.bind]
      intro hm x H1 x1 t1 o1
      refine ⟨_, en, w.ext x1 t1, ?_⟩
      revert hm
      cases ml en with
      | exc x => exact fun hm => EXC.of hm x1
      | bad => exact fun hm => hm
      | ok lo =>
        dsimp only [R.bind]
        intro hm H2 x2 t2
        refine ⟨_, en, w.ext (x1.trans x2) t2, ?_⟩
        revert hm
        cases mh en with
        | exc x => exact fun hm => EXC.of hm (x1.trans x2)
        | bad => exact fun hm => hm
        | ok hi =>
          dsimp only [R.bind]
          cases hf : f d1 lo hi with
          | none => exact fun hm => hm.elim
          | some d =>
            intro hm H3 x3 t3
            have x23 := x2.trans x3
            have x13 := x1.trans x23
            have o3 : RV X.K (Sel fa.t? Z H H3) d1 x := RV.sb (Sel.later _ x23) _ _ o1.sel
            refine hd (Sel fa.t? Z H H3) H3 d1 lo hi x d _ (Sel.sub _ _ _ _) o3 hf fun v H' sm o => ?_
            exact hm v H' (x13.trans (Ex.of_same sm)) (t3.ext sm) (o.comp x13 (Ex.of_same sm))
end
end VL
namespace VL
open PySem PySem.Spec PyProof.Rows L2
section
variable {X : Cx} {K : Kf} {Tb : Tbs} {C : Cn} {E : XK} {G : List SM} {fl fa fb f0 : Fl} {a b : Expr} {ma mb : En → R Dt} {pos : Pos}
/-! ### isinstance -/
inductive Ty where
  | int | bool | str | list | tuple | dict
  deriving DecidableEq
def Ty.nm : Ty → String
  | .int => "int"
  | .bool => "bool"
  | .str => "str"
  | .list => "list"
  | .tuple => "tuple"
  | .dict => "dict"
def Ty.of : Ty → Dt → Bool
  | .int, .int _ => true
  | .int, .bool _ => true
  | .bool, .bool _ => true
  | .str, .str _ => true
  | .list, .list _ => true
  | .tuple, .tuple _ => true
  | .dict, .dict _ => true
  | _, _ => false
def tyN : Dt → String
  | .none => "NoneType"
  | .bool _ => "bool"
  | .int _ => "int"
  | .str _ => "str"
  | .list _ => "list"
  | .tuple _ => "tuple"
  | .dict _ => "dict"
theorem kit_ty (T : Ty) (d : Dt) : PySem.W.kitOne K (.type (tyN d)) (.type T.nm) = some (T.of d) := by
  cases T <;> cases d <;> rfl
theorem rv_ty {S H : Hp} (s : Sb S H) {d : Dt} {v : V} (r : RV K S d v) : TyX K H v (.type (tyN d)) := by
  cases d with
  | none => cases r; exact .base .non
  | bool b => cases r; exact .base (.bl b)
  | int b => cases r; exact .base (.int b)
  | str b => cases r; exact .base (.str b)
  | list ds =>
    obtain ⟨p, xs, rfl, h1, _⟩ := r
    exact .base (.lst (s _ _ h1 rfl))
  | tuple ds =>
    obtain ⟨p, xs, rfl, h1, _⟩ := r
    rcases SqT.sb s h1 with (h | ⟨o, h⟩) | ⟨o, its, n, h2, h3, _⟩
    · exact .base (.tup h)
    · exact .fTuple h
    · exact .kTuple h2 h3
  | dict ds =>
    obtain ⟨p, rfl, h⟩ := r
    rcases h with ⟨ks, h1, _⟩ | ⟨ks, h1, _⟩
    · exact .base (.dK (s _ _ h1 rfl))
    · exact .base (.dT (s _ _ h1 rfl))
def qIsi (T : Ty) (m : En → R Dt) : En → R Dt := fun e => (m e).bind fun d => .ok (.bool (T.of d))
theorem vq_isi (T : Ty) {p p2 : Pos} {x : Str} (ha : VQ X Tb C E G fa ma a) (hg : Gl X "isinstance") (hm : X.mg "isinstance" = none) (hg2 : Gl X x) (hm2 : X.mg x = none) (hx : bootBuiltins x = some (.type T.nm)) (hn : x ≠ "__name__" := by decide) (hdb : (x == ("__debug__" : Str)) = false := by decide)
    (he : starEach [a, .Name x p2] X.env = (false, eval a X.env) :: starEach [.Name x p2] X.env := by rfl) (hpl : (backTo pos (starEach [.Name x p2] X.env)).any (·.1) = false := by rfl) (he2 : starEach [.Name x p2] X.env = (false, eval (.Name x p2) X.env) :: starEach [] X.env := by rfl) :
    VQ X Tb C E G .z (qIsi T ma) (.Call (.Name "isinstance" p) [a, .Name x p2] [] pos) :=
  PE.weak (pe_callB call_isi hg hm (by decide +kernel) (pa_cons ha (pa_cons (pe_bltn (v := .ty T.nm) hg2 hm2 hx rfl hn hdb) pa_nil he2) he) (by decide) (by decide) he hpl) fun σ H Q fit hq => by
    obtain ⟨Z, en, w, hm⟩ := hq
    refine ⟨Z, en, w, ?_⟩
    unfold qIsi at hm
    revert hm
    cases ma en with
    | exc x => exact fun hm => hm
    | bad => exact fun hm => hm
    | ok d =>
      dsimp only [R.bind]
      intro hm v H1 x1 t1 o1
      exact ⟨v, _, _, _, _, rfl, .ty _, rv_ty (Sb.refl _) o1.rv, kit_ty T d, hm _ H1 x1 t1 rfl⟩
/-- isinstance(x, (T, U)) -/
def qIsi2 (T U : Ty) (m : En → R Dt) : En → R Dt := fun e => (m e).bind fun d => .ok (.bool (T.of d || U.of d))
theorem kit_any2 (T U : Ty) (d : Dt) : PySem.W.kitAny K (.type (tyN d)) [.type T.nm, .type U.nm] = some (T.of d || U.of d) := by
  cases T <;> cases U <;> cases d <;> rfl
theorem vq_isi2 (T U : Ty) {p p2 p3 p4 : Pos} {x y : Str} {kk : Nat} (ha : VQ X Tb C E G fa ma a) (hg : Gl X "isinstance") (hm : X.mg "isinstance" = none) (hg2 : Gl X x) (hm2 : X.mg x = none) (hx : bootBuiltins x = some (.type T.nm)) (hg3 : Gl X y) (hm3 : X.mg y = none) (hy : bootBuiltins y = some (.type U.nm))
    (hn : x ≠ "__name__" := by decide) (hdb : (x == ("__debug__" : Str)) = false := by decide) (hn2 : y ≠ "__name__" := by decide) (hdb2 : (y == ("__debug__" : Str)) = false := by decide)
    (he : starEach [a, .Tuple [.Name x p2, .Name y p3] kk p4] X.env = (false, eval a X.env) :: starEach [.Tuple [.Name x p2, .Name y p3] kk p4] X.env := by rfl) (hpl : (backTo pos (starEach [.Tuple [.Name x p2, .Name y p3] kk p4] X.env)).any (·.1) = false := by rfl)
    (he2 : starEach [.Tuple [.Name x p2, .Name y p3] kk p4] X.env = (false, eval (.Tuple [.Name x p2, .Name y p3] kk p4) X.env) :: starEach [] X.env := by rfl)
    (he3 : starEach [.Name x p2, .Name y p3] X.env = (false, eval (.Name x p2) X.env) :: starEach [.Name y p3] X.env := by rfl) (he4 : starEach [.Name y p3] X.env = (false, eval (.Name y p3) X.env) :: starEach [] X.env := by rfl) :
    VQ X Tb C E G .z (qIsi2 T U ma) (.Call (.Name "isinstance" p) [a, .Tuple [.Name x p2, .Name y p3] kk p4] [] pos) :=
  PE.weak (pe_callB call_isiT hg hm (by decide +kernel) (pa_cons ha (pa_cons (pe_tup (pa_cons (pe_bltn (v := .ty T.nm) hg2 hm2 hx rfl hn hdb) (pa_cons (pe_bltn (v := .ty U.nm) hg3 hm3 hy rfl hn2 hdb2) pa_nil he4) he3)) pa_nil he2) he) (by decide) (by decide) he hpl) fun σ H Q fit hq => by
    obtain ⟨Z, en, w, hm⟩ := hq
    refine ⟨Z, en, w, ?_⟩
    unfold qIsi2 at hm
    revert hm
    cases ma en with
    | exc x => exact fun hm => hm
    | bad => exact fun hm => hm
    | ok d =>
      dsimp only [R.bind]
      intro hm v H1 x1 t1 o1
      refine ⟨by rw [sizeLine_eq]; simp, fun q nq => ?_⟩
      have sm : Same H1 (upd H1 q (.tup [V.ty T.nm, V.ty U.nm])) := same_upd nq
      have x2 := x1.trans (Ex.of_same sm)
      exact ⟨v, q, _, _, _, _, rfl, upd_same, .cons (.ty _) (.cons (.ty _) .nil), rv_ty (S := H1) (Ex.of_same sm).ke o1.rv, kit_any2 T U d, hm _ _ x2 (t1.ext sm) rfl⟩
/-! ### len, abs, int, min, max -/
theorem RKs.lenK {S : Hp} : ∀ {kvs : List (Dt × Dt)} {ks : List (Key × V)}, RKs K S kvs ks → ks.length = kvs.length
  | [], ks, h => by cases h; rfl
  | (k, d) :: r, ks, h => by
    obtain ⟨q, y, s, rfl, _, _, h4⟩ := h
    rw [List.length_cons, List.length_cons, RKs.lenK h4]
theorem RTs.lenT {S : Hp} : ∀ {kvs : List (Dt × Dt)} {ks : List (List Key × V)}, RTs K S kvs ks → ks.length = kvs.length
  | [], ks, h => by cases h; rfl
  | (k, d) :: r, ks, h => by
    obtain ⟨q, y, s, rfl, _, _, h4⟩ := h
    rw [List.length_cons, List.length_cons, RTs.lenT h4]
def lenD : List Dt → Option Dt
  | [.list ds] => some (.int ds.length)
  | [.tuple ds] => some (.int ds.length)
  | [.str z] => if z.length ≤ sizeLine then some (.int z.length) else none
  | [.dict kvs] => some (.int kvs.length)
  | _ => none
def rLenA (K : Kf) : List V → Hp → VK → Prop := fun xs H Q => (∃ x n, xs = [x] ∧ LenV K x H n ∧ Q (.int n) H) ∨ (∃ a kvs, xs = [V.ref a] ∧ H a = some (.dK kvs) ∧ Q (.int kvs.length) H) ∨ rLenT xs H Q
theorem call_lenA : CallR X (.builtin "len") (rLenA X.K) := by
  intro pins s σ H xs us Q I r h
  rcases h with h | h | h
  · exact call_len pins s σ H xs us Q I r h
  · exact call_lenD pins s σ H xs us Q I r h
  · exact call_len_dT pins s σ H xs us Q I r h
theorem lenD_ok : CallD K .z lenD (rLenA K) := fun S H ds vs d Q fit s r e k => by
  unfold lenD at e
  split at e
  · cases e
    obtain ⟨y, ys, rfl, ⟨p, xs, rfl, h1, h2⟩, h3⟩ := r
    cases h3
    exact .inl ⟨_, _, rfl, .inl ⟨xs, .inl (.inl (s _ _ h1 rfl)), h2.len.symm⟩, k _ H (Same.refl _) rfl⟩
  · cases e
    obtain ⟨y, ys, rfl, ⟨p, xs, rfl, h1, h2⟩, h3⟩ := r
    cases h3
    exact .inl ⟨_, _, rfl, .inr ⟨xs, SqT.sb s h1, h2.len.symm⟩, k _ H (Same.refl _) rfl⟩
  · split at e
    · rename_i hl
      cases e
      obtain ⟨y, ys, rfl, h2, h3⟩ := r
      cases h2
      cases h3
      exact .inl ⟨_, _, rfl, ⟨hl, rfl⟩, k _ H (Same.refl _) rfl⟩
    · cases e
  · cases e
    obtain ⟨y, ys, rfl, ⟨p, rfl, h1⟩, h3⟩ := r
    cases h3
    rcases h1 with ⟨ks, h1, h2⟩ | ⟨ks, h1, h2⟩
    · exact .inr (.inl ⟨_, _, rfl, s _ _ h1 rfl, by rw [h2.lenK]; exact k _ H (Same.refl _) rfl⟩)
    · exact .inr (.inr ⟨_, _, rfl, s _ _ h1 rfl, by rw [h2.2.lenT]; exact k _ H (Same.refl _) rfl⟩)
  · cases e
def absD : List Dt → Option Dt
  | [.int i] => some (.int (if i < 0 then -i else i))
  | _ => none
theorem absD_ok : CallD K .z absD (fun xs H Q => ∃ i, xs = [.int i] ∧ Q (.int (if i < 0 then -i else i)) H) := fun S H ds vs d Q fit s r e k => by
  unfold absD at e
  split at e
  · cases e
    obtain ⟨y, ys, rfl, h2, h3⟩ := r
    cases h2
    cases h3
    exact ⟨_, rfl, k _ H (Same.refl _) rfl⟩
  · cases e
def intD : List Dt → Option Dt
  | [.int i] => some (.int i)
  | [.bool b] => some (.int (if b then 1 else 0))
  | _ => none
theorem intD_ok : CallD K .z intD (fun xs H Q => (∃ i, xs = [.int i] ∧ Q (.int i) H) ∨ ∃ k, xs = [.bl k] ∧ Q (.int (if k then 1 else 0)) H) := fun S H ds vs d Q fit s r e k => by
  unfold intD at e
  split at e
  · cases e
    obtain ⟨y, ys, rfl, h2, h3⟩ := r
    cases h2
    cases h3
    exact .inl ⟨_, rfl, k _ H (Same.refl _) rfl⟩
  · cases e
    obtain ⟨y, ys, rfl, h2, h3⟩ := r
    cases h2
    cases h3
    exact .inr ⟨_, rfl, k _ H (Same.refl _) rfl⟩
  · cases e
def maxD2 : List Dt → Option Dt
  | [.int i, .int j] => some (.int (if j > i then j else i))
  | _ => none
def minD2 : List Dt → Option Dt
  | [.int i, .int j] => some (.int (if j < i then j else i))
  | _ => none
theorem maxD2_ok : CallD K .z maxD2 (fun xs H Q => ∃ i j, xs = [.int i, .int j] ∧ Q (.int (if j > i then j else i)) H) := fun S H ds vs d Q fit s r e k => by
  unfold maxD2 at e
  split at e
  · cases e
    obtain ⟨y, ys, rfl, h2, y2, ys2, rfl, h3, h4⟩ := r
    cases h2
    cases h3
    cases h4
    exact ⟨_, _, rfl, k _ H (Same.refl _) rfl⟩
  · cases e
theorem minD2_ok : CallD K .z minD2 (fun xs H Q => ∃ i j, xs = [.int i, .int j] ∧ Q (.int (if j < i then j else i)) H) := fun S H ds vs d Q fit s r e k => by
  unfold minD2 at e
  split at e
  · cases e
    obtain ⟨y, ys, rfl, h2, y2, ys2, rfl, h3, h4⟩ := r
    cases h2
    cases h3
    cases h4
    exact ⟨_, _, rfl, k _ H (Same.refl _) rfl⟩
  · cases e
/-! ### calls over lists of ints, of bools -/
def ints? : List Dt → Option (List Int)
  | [] => some []
  | .int i :: r => (ints? r).map fun l => i :: l
  | _ => none
def bools? : List Dt → Option (List Bool)
  | [] => some []
  | .bool i :: r => (bools? r).map fun l => i :: l
  | _ => none
theorem ints?_ok {S : Hp} : ∀ {ds : List Dt} {ns : List Int} {xs : List V}, ints? ds = some ns → RVs K S ds xs → xs = ns.map V.int
  | [], ns, xs, h, r => by cases h; cases r; rfl
  | d :: ds, ns, xs, h, r => by
    obtain ⟨y, ys, rfl, h1, h2⟩ := r
    unfold ints? at h
    split at h
    · rename_i hh
      cases hh
    · rename_i i r' hh
      cases hh
      rw [Option.map_eq_some_iff] at h
      obtain ⟨l, h3, rfl⟩ := h
      have := ints?_ok h3 h2
      cases h1
      rw [this]
      rfl
    · cases h
theorem bools?_ok {S : Hp} : ∀ {ds : List Dt} {ns : List Bool} {xs : List V}, bools? ds = some ns → RVs K S ds xs → xs = ns.map V.bl
  | [], ns, xs, h, r => by cases h; cases r; rfl
  | d :: ds, ns, xs, h, r => by
    obtain ⟨y, ys, rfl, h1, h2⟩ := r
    unfold bools? at h
    split at h
    · rename_i hh
      cases hh
    · rename_i i r' hh
      cases hh
      rw [Option.map_eq_some_iff] at h
      obtain ⟨l, h3, rfl⟩ := h
      have := bools?_ok h3 h2
      cases h1
      rw [this]
      rfl
    · cases h
theorem iter_intTup {prog : Program} {w : World} {A : Around} {E : Value → Shared → Prop} {s : Shared} {l : Addr} {xs : Array (Int × Tok)} {Q : Value → Shared → Prop} (hl : s.heap.IsTuple l (intItems xs))
    (h : ∀ s₂ : Shared, s₂ = { s with heap := s.heap.push { cls := .type "tuple_iterator", data := .fields #[.ref l, .int 0 0] } } →
      (s₂.heap.IsTupleIter s.heap.objs.size l 0 ∧ s₂.heap.IsTuple l (intItems xs)) → (∀ b ∈ [s.heap.objs.size, l], b < s₂.heap.objs.size) → l ≠ s.heap.objs.size → Q (.ref s.heap.objs.size) s₂) :
    wpAny (model prog w) A (pyIter (.ref l)) Q E s := by
  have hlt : l < s.heap.objs.size := by obtain ⟨_, e, _⟩ := hl; exact Heap.lt_size e
  refine wpAny_pyIter_tuple hl (h _ rfl ⟨⟨_, Heap.get?_push_size _ rfl, rfl, rfl⟩, hl.push _⟩ (fun b hb => ?_) (Nat.ne_of_lt hlt))
  show b < (s.heap.push _).objs.size
  rw [Heap.size_push]
  rcases List.mem_cons.mp hb with rfl | hb
  · exact Nat.lt_succ_self _
  · rcases List.mem_cons.mp hb with rfl | hb
    · exact Nat.lt_succ_of_lt hlt
    · cases hb
theorem old_keptT {s : Shared} {l : Addr} {h' : Heap} (hk : ∀ b o, b ∉ [s.heap.objs.size] → (s.heap.push { cls := .type "tuple_iterator", data := .fields #[.ref l, .int 0 0] }).get? b = some o → h'.get? b = some o) :
    ∀ b o, s.heap.get? b = some o → h'.get? b = some o := fun b o e => by
  refine hk b o (fun hm => ?_) (Heap.get?_push_of_some _ e)
  rcases List.mem_cons.mp hm with e1 | hm
  · exact absurd (e1 ▸ Heap.lt_size e) (Nat.lt_irrefl _)
  · cases hm
section
variable {prog : Program} {w : World} {A : Around} {E : Value → Shared → Prop} {s : Shared} {l : Addr} {its : List Value} {ns : List Int} {Q : Value → Shared → Prop}
theorem sum_rawT (hh : A.handled = none) (hl : s.heap.IsTuple l its.toArray) (hi : IntsAre its ns)
    (h : ∀ h' tk t', (∀ b o, s.heap.get? b = some o → h'.get? b = some o) → Q (.int ns.sum t') { s with heap := h', toks := tk }) : wpAny (model prog w) A (call (.builtin "sum") [.ref l]) Q E s := by
  obtain ⟨xs, e⟩ := hi.allInts.items
  have hn : numsOf (intItems xs).toList = ns := by rw [← e]; exact hi.numsOf
  rw [nums_intItems] at hn
  rw [e] at hl
  refine call_sum_walkG (iter_intTup hl fun s₂ e st hfp hlI => ?_)
  subst e
  refine ⟨_, _, _, _, _, _, numAt xs, rfl, Walks.tuple (A := A.in1) hh _ l hlI (intItems xs), st, hfp, (fun _ _ => intItems_at), fun h' tk t' hk => ?_⟩
  have := h h' tk t' (old_keptT hk)
  rw [preSum_eq, List.take_of_length_le (by simp [intItems]), hn]
  exact this
theorem max_rawT (hh : A.handled = none) (hl : s.heap.IsTuple l its.toArray) (hi : IntsAre its ns) (hne : 0 < ns.length)
    (h : ∀ h' tk M t', (∀ b o, s.heap.get? b = some o → h'.get? b = some o) → M ∈ ns → (∀ a, a ∈ ns → a ≤ M) → Q (.int M t') { s with heap := h', toks := tk }) : wpAny (model prog w) A (call (.builtin "max") [.ref l]) Q E s := by
  obtain ⟨xs, e⟩ := hi.allInts.items
  have hn : numsOf (intItems xs).toList = ns := by rw [← e]; exact hi.numsOf
  rw [nums_intItems] at hn
  subst hn
  rw [e] at hl
  have hsz : 0 < xs.size := by simpa using hne
  refine call_max_walk (iter_intTup hl fun s₂ e st hfp hlI => ?_)
  subst e
  refine ⟨_, _, _, _, _, _, _, rfl, Walks.tuple (A := A.in1) hh _ l hlI (intItems xs), st, hfp, by simpa [intItems] using hsz, CmpOf.ints_gt (numAt xs) (fun _ _ => intItems_at), fun v h' tk hP hk => ?_⟩
  have hv : (intItems xs)[argBest (fun i j => decide (numAt xs i > numAt xs j)) (xs.size - 1)]? = some v := by simpa [intItems] using hP
  obtain ⟨t, rfl⟩ := intItems_at hv
  obtain ⟨h1, h2⟩ := argBest_gt (numAt xs) (xs.size - 1)
  refine h h' tk _ t (old_keptT hk) ?_ fun a ha => ?_
  · rw [numAt_eq]; exact PySem.getD_mem (by rw [List.length_map, Array.length_toList]; omega)
  · obtain ⟨j, hj, rfl⟩ := mem_getD ha
    rw [List.length_map, Array.length_toList] at hj
    rw [← numAt_eq]; exact h2 j (by omega)
theorem min_rawT (hh : A.handled = none) (hl : s.heap.IsTuple l its.toArray) (hi : IntsAre its ns) (hne : 0 < ns.length)
    (h : ∀ h' tk M t', (∀ b o, s.heap.get? b = some o → h'.get? b = some o) → M ∈ ns → (∀ a, a ∈ ns → M ≤ a) → Q (.int M t') { s with heap := h', toks := tk }) : wpAny (model prog w) A (call (.builtin "min") [.ref l]) Q E s := by
  obtain ⟨xs, e⟩ := hi.allInts.items
  have hn : numsOf (intItems xs).toList = ns := by rw [← e]; exact hi.numsOf
  rw [nums_intItems] at hn
  subst hn
  rw [e] at hl
  have hsz : 0 < xs.size := by simpa using hne
  refine call_min_walk (iter_intTup hl fun s₂ e st hfp hlI => ?_)
  subst e
  refine ⟨_, _, _, _, _, _, _, rfl, Walks.tuple (A := A.in1) hh _ l hlI (intItems xs), st, hfp, by simpa [intItems] using hsz, CmpOf.ints_lt (numAt xs) (fun _ _ => intItems_at), fun v h' tk hP hk => ?_⟩
  have hv : (intItems xs)[argBest (fun i j => decide (numAt xs i < numAt xs j)) (xs.size - 1)]? = some v := by simpa [intItems] using hP
  obtain ⟨t, rfl⟩ := intItems_at hv
  obtain ⟨h1, h2⟩ := argBest_lt (numAt xs) (xs.size - 1)
  refine h h' tk _ t (old_keptT hk) ?_ fun a ha => ?_
  · rw [numAt_eq]; exact PySem.getD_mem (by rw [List.length_map, Array.length_toList]; omega)
  · obtain ⟨j, hj, rfl⟩ := mem_getD ha
    rw [List.length_map, Array.length_toList] at hj
    rw [← numAt_eq]; exact h2 j (by omega)
end
def rSumA (K : Kf) : List V → Hp → VK → Prop := fun vs H Q => rSum K vs H Q ∨ ∃ (a : Addr) (ns : List Int), vs = [V.ref a] ∧ SqT K H a (ns.map V.int) ∧ Q (.int ns.sum) H
def rMaxA (K : Kf) : List V → Hp → VK → Prop := fun vs H Q => rMax K vs H Q ∨ ∃ (a : Addr) (ns : List Int), vs = [V.ref a] ∧ SqT K H a (ns.map V.int) ∧ 0 < ns.length ∧ ∀ m, m ∈ ns → (∀ y, y ∈ ns → y ≤ m) → Q (.int m) H
def rMinA (K : Kf) : List V → Hp → VK → Prop := fun vs H Q => rMin K vs H Q ∨ ∃ (a : Addr) (ns : List Int), vs = [V.ref a] ∧ SqT K H a (ns.map V.int) ∧ 0 < ns.length ∧ ∀ m, m ∈ ns → (∀ y, y ∈ ns → m ≤ y) → Q (.int m) H
theorem cr_sumA {X : Cx} (hc : X.calm = true) : CallR X (.builtin "sum") (rSumA X.K) := by
  intro pins s σ H vs us Q I r h
  rcases h with h | ⟨a, ns, rfl, hs, q⟩
  · exact cr_sum hc pins s σ H vs us Q I r h
  · obtain ⟨its, rv, hl, _⟩ := I.tuple hs
    rw [Vals.ref1 r]
    exact sum_rawT (I.ok.hd hc) hl rv.ints fun h' tk t' hk => ⟨.int _, H, I.kept hk, ⟨_, rfl⟩, q⟩
theorem cr_maxA {X : Cx} (hc : X.calm = true) : CallR X (.builtin "max") (rMaxA X.K) := by
  intro pins s σ H vs us Q I r h
  rcases h with h | ⟨a, ns, rfl, hs, hne, q⟩
  · exact cr_max hc pins s σ H vs us Q I r h
  · obtain ⟨its, rv, hl, _⟩ := I.tuple hs
    rw [Vals.ref1 r]
    exact max_rawT (I.ok.hd hc) hl rv.ints hne fun h' tk m t' hk h1 h2 => ⟨.int _, H, I.kept hk, ⟨_, rfl⟩, q m h1 h2⟩
theorem cr_minA {X : Cx} (hc : X.calm = true) : CallR X (.builtin "min") (rMinA X.K) := by
  intro pins s σ H vs us Q I r h
  rcases h with h | ⟨a, ns, rfl, hs, hne, q⟩
  · exact cr_min hc pins s σ H vs us Q I r h
  · obtain ⟨its, rv, hl, _⟩ := I.tuple hs
    rw [Vals.ref1 r]
    exact min_rawT (I.ok.hd hc) hl rv.ints hne fun h' tk m t' hk h1 h2 => ⟨.int _, H, I.kept hk, ⟨_, rfl⟩, q m h1 h2⟩
def sumD : List Dt → Option Dt
  | [.list ds] => (ints? ds).map fun ns => .int ns.sum
  | [.tuple ds] => (ints? ds).map fun ns => .int ns.sum
  | _ => none
theorem sumD_ok : CallD K .z sumD (rSumA K) := fun S H ds vs d Q fit s r e k => by
  unfold sumD at e
  split at e
  · rw [Option.map_eq_some_iff] at e
    obtain ⟨ns, h1, rfl⟩ := e
    obtain ⟨y, ys, rfl, ⟨p, xs, rfl, h2, h3⟩, h4⟩ := r
    cases h4
    have e2 := ints?_ok h1 h3
    subst e2
    exact .inl ⟨p, ns, rfl, .inl (.inl (s _ _ h2 rfl)), k _ H (Same.refl _) rfl⟩
  · rw [Option.map_eq_some_iff] at e
    obtain ⟨ns, h1, rfl⟩ := e
    obtain ⟨y, ys, rfl, ⟨p, xs, rfl, h2, h3⟩, h4⟩ := r
    cases h4
    have e2 := ints?_ok h1 h3
    subst e2
    exact .inr ⟨p, ns, rfl, SqT.sb s h2, k _ H (Same.refl _) rfl⟩
  · cases e
def allD : List Dt → Option Dt
  | [.list ds] => (bools? ds).map fun ns => .bool (ns.all id)
  | _ => none
def anyD : List Dt → Option Dt
  | [.list ds] => (bools? ds).map fun ns => .bool (ns.any id)
  | _ => none
theorem allD_ok : CallD K .z allD (rAll K) := fun S H ds vs d Q fit s r e k => by
  unfold allD at e
  split at e
  · rw [Option.map_eq_some_iff] at e
    obtain ⟨ns, h1, rfl⟩ := e
    obtain ⟨y, ys, rfl, ⟨p, xs, rfl, h2, h3⟩, h4⟩ := r
    cases h4
    have e2 := bools?_ok h1 h3
    subst e2
    exact ⟨p, ns, rfl, .inl (.inl (s _ _ h2 rfl)), k _ H (Same.refl _) rfl⟩
  · cases e
theorem anyD_ok : CallD K .z anyD (rAny K) := fun S H ds vs d Q fit s r e k => by
  unfold anyD at e
  split at e
  · rw [Option.map_eq_some_iff] at e
    obtain ⟨ns, h1, rfl⟩ := e
    obtain ⟨y, ys, rfl, ⟨p, xs, rfl, h2, h3⟩, h4⟩ := r
    cases h4
    have e2 := bools?_ok h1 h3
    subst e2
    exact ⟨p, ns, rfl, .inl (.inl (s _ _ h2 rfl)), k _ H (Same.refl _) rfl⟩
  · cases e
/-- the greatest, the least -/
def mxI : List Int → Option Int
  | [] => none
  | i :: r => some (r.foldl max i)
def mnI : List Int → Option Int
  | [] => none
  | i :: r => some (r.foldl min i)
theorem foldl_max_ge : ∀ (l : List Int) (i : Int), i ≤ l.foldl max i ∧ ∀ y ∈ l, y ≤ l.foldl max i
  | [], i => ⟨Int.le_refl _, fun y h => by cases h⟩
  | a :: l, i => by
    obtain ⟨h1, h2⟩ := foldl_max_ge l (max i a)
    refine ⟨Int.le_trans (Int.le_max_left i a) h1, fun y h => ?_⟩
    rcases List.mem_cons.mp h with rfl | h
    · exact Int.le_trans (Int.le_max_right i y) h1
    · exact h2 y h
theorem foldl_max_mem : ∀ (l : List Int) (i : Int), l.foldl max i = i ∨ l.foldl max i ∈ l
  | [], i => .inl rfl
  | a :: l, i => by
    rcases foldl_max_mem l (max i a) with h | h
    · rw [List.foldl_cons, h]
      rcases Int.le_total i a with h3 | h3
      · rw [Int.max_eq_right h3]; exact .inr (List.mem_cons_self ..)
      · rw [Int.max_eq_left h3]; exact .inl rfl
    · exact .inr (List.mem_cons_of_mem _ h)
theorem foldl_min_le : ∀ (l : List Int) (i : Int), l.foldl min i ≤ i ∧ ∀ y ∈ l, l.foldl min i ≤ y
  | [], i => ⟨Int.le_refl _, fun y h => by cases h⟩
  | a :: l, i => by
    obtain ⟨h1, h2⟩ := foldl_min_le l (min i a)
    refine ⟨Int.le_trans h1 (Int.min_le_left i a), fun y h => ?_⟩
    rcases List.mem_cons.mp h with rfl | h
    · exact Int.le_trans h1 (Int.min_le_right i y)
    · exact h2 y h
theorem foldl_min_mem : ∀ (l : List Int) (i : Int), l.foldl min i = i ∨ l.foldl min i ∈ l
  | [], i => .inl rfl
  | a :: l, i => by
    rcases foldl_min_mem l (min i a) with h | h
    · rw [List.foldl_cons, h]
      rcases Int.le_total i a with h3 | h3
      · rw [Int.min_eq_left h3]; exact .inl rfl
      · rw [Int.min_eq_right h3]; exact .inr (List.mem_cons_self ..)
    · exact .inr (List.mem_cons_of_mem _ h)
theorem mxI_uniq {ns : List Int} {m m' : Int} (h : mxI ns = some m) (h1 : m' ∈ ns) (h2 : ∀ y ∈ ns, y ≤ m') : m' = m := by
  cases ns with
  | nil => cases h
  | cons i r =>
    cases h
    obtain ⟨h3, h4⟩ := foldl_max_ge r i
    apply Int.le_antisymm
    · rcases List.mem_cons.mp h1 with rfl | h1
      · exact h3
      · exact h4 _ h1
    · rcases foldl_max_mem r i with h5 | h5
      · rw [h5]; exact h2 _ (List.mem_cons_self ..)
      · exact h2 _ (List.mem_cons_of_mem _ h5)
theorem mnI_uniq {ns : List Int} {m m' : Int} (h : mnI ns = some m) (h1 : m' ∈ ns) (h2 : ∀ y ∈ ns, m' ≤ y) : m' = m := by
  cases ns with
  | nil => cases h
  | cons i r =>
    cases h
    obtain ⟨h3, h4⟩ := foldl_min_le r i
    apply Int.le_antisymm
    · rcases foldl_min_mem r i with h5 | h5
      · rw [h5]; exact h2 _ (List.mem_cons_self ..)
      · exact h2 _ (List.mem_cons_of_mem _ h5)
    · rcases List.mem_cons.mp h1 with rfl | h1
      · exact h3
      · exact h4 _ h1
def maxD : List Dt → Option Dt
  | [.list ds] => ((ints? ds).bind mxI).map .int
  | [.tuple ds] => ((ints? ds).bind mxI).map .int
  | _ => none
def minD : List Dt → Option Dt
  | [.list ds] => ((ints? ds).bind mnI).map .int
  | [.tuple ds] => ((ints? ds).bind mnI).map .int
  | _ => none
theorem maxD_ok : CallD K .z maxD (rMaxA K) := fun S H ds vs d Q fit s r e k => by
  unfold maxD at e
  split at e
  · rw [Option.map_eq_some_iff] at e
    obtain ⟨m, h0, rfl⟩ := e
    rw [Option.bind_eq_some_iff] at h0
    obtain ⟨ns, h1, h5⟩ := h0
    obtain ⟨y, ys, rfl, ⟨p, xs, rfl, h2, h3⟩, h4⟩ := r
    cases h4
    have e2 := ints?_ok h1 h3
    subst e2
    refine .inl ⟨p, ns, rfl, .inl (.inl (s _ _ h2 rfl)), ?_, fun m' a1 a2 => ?_⟩
    · cases ns with
      | nil => cases h5
      | cons i r => simp
    · rw [mxI_uniq h5 a1 a2]
      exact k _ H (Same.refl _) rfl
  · rw [Option.map_eq_some_iff] at e
    obtain ⟨m, h0, rfl⟩ := e
    rw [Option.bind_eq_some_iff] at h0
    obtain ⟨ns, h1, h5⟩ := h0
    obtain ⟨y, ys, rfl, ⟨p, xs, rfl, h2, h3⟩, h4⟩ := r
    cases h4
    have e2 := ints?_ok h1 h3
    subst e2
    refine .inr ⟨p, ns, rfl, SqT.sb s h2, ?_, fun m' a1 a2 => ?_⟩
    · cases ns with
      | nil => cases h5
      | cons i r => simp
    · rw [mxI_uniq h5 a1 a2]
      exact k _ H (Same.refl _) rfl
  · cases e
theorem minD_ok : CallD K .z minD (rMinA K) := fun S H ds vs d Q fit s r e k => by
  unfold minD at e
  split at e
  · rw [Option.map_eq_some_iff] at e
    obtain ⟨m, h0, rfl⟩ := e
    rw [Option.bind_eq_some_iff] at h0
    obtain ⟨ns, h1, h5⟩ := h0
    obtain ⟨y, ys, rfl, ⟨p, xs, rfl, h2, h3⟩, h4⟩ := r
    cases h4
    have e2 := ints?_ok h1 h3
    subst e2
    refine .inl ⟨p, ns, rfl, .inl (.inl (s _ _ h2 rfl)), ?_, fun m' a1 a2 => ?_⟩
    · cases ns with
      | nil => cases h5
      | cons i r => simp
    · rw [mnI_uniq h5 a1 a2]
      exact k _ H (Same.refl _) rfl
  · rw [Option.map_eq_some_iff] at e
    obtain ⟨m, h0, rfl⟩ := e
    rw [Option.bind_eq_some_iff] at h0
    obtain ⟨ns, h1, h5⟩ := h0
    obtain ⟨y, ys, rfl, ⟨p, xs, rfl, h2, h3⟩, h4⟩ := r
    cases h4
    have e2 := ints?_ok h1 h3
    subst e2
    refine .inr ⟨p, ns, rfl, SqT.sb s h2, ?_, fun m' a1 a2 => ?_⟩
    · cases ns with
      | nil => cases h5
      | cons i r => simp
    · rw [mnI_uniq h5 a1 a2]
      exact k _ H (Same.refl _) rfl
  · cases e
/-! ### list(x), tuple(x) -/
def listD : List Dt → Option Dt
  | [.list ds] => some (.list ds)
  | [.tuple ds] => some (.list ds)
  | _ => none
theorem listD_ok : CallD K .own listD (fun xs H Q => ∃ p ys, xs = [.ref p] ∧ (SqL K H p ys ∨ SqT K H p ys) ∧ ∀ l, H l = none → Q (.ref l) (upd H l (.lst ys))) := fun S H ds vs d Q fit s r e k => by
  unfold listD at e
  split at e
  · cases e
    obtain ⟨y, ys, rfl, ⟨p, xs, rfl, h1, h2⟩, h3⟩ := r
    cases h3
    exact ⟨p, xs, rfl, .inl (.inl (.inl (s _ _ h1 rfl))), fun l nl => k _ _ (same_upd nl) (out_lst s nl h2)⟩
  · cases e
    obtain ⟨y, ys, rfl, ⟨p, xs, rfl, h1, h2⟩, h3⟩ := r
    cases h3
    exact ⟨p, xs, rfl, .inr (SqT.sb s h1), fun l nl => k _ _ (same_upd nl) (out_lst s nl h2)⟩
  · cases e
def tupD : Dt → Option Dt
  | .list ds => some (.tuple ds)
  | .tuple ds => some (.tuple ds)
  | _ => none
def q1 (f : Dt → Option Dt) (m : En → R Dt) : En → R Dt := fun e => (m e).bind fun d => R.ofO (f d)
theorem vq_tuple {p : Pos} (hg : Gl X "tuple") (hm : X.mg "tuple" = none) (ha : VQ X Tb C E G fa ma a) (na : starEach [a] X.env = (false, eval a X.env) :: starEach [] X.env := by rfl) :
    VQ X Tb C E G (Fl.on fa.t? .z) (q1 tupD ma) (.Call (.Name "tuple" p) [a] [] pos) :=
  PE.weak (pe_tupleOf hg hm ha na) fun σ H Q fit hq => by
    obtain ⟨Z, en, w, hm⟩ := hq
    refine ⟨Z, en, w, ?_⟩
    unfold q1 at hm
    revert hm
    cases ma en with
    | exc x => exact fun hm => hm
    | bad => exact fun hm => hm
    | ok d =>
      dsimp only [R.bind]
      cases d with
      | list ds =>
        intro hm v H1 x1 t1 o1
        obtain ⟨p, xs, rfl, h1, h2⟩ := o1.sel
        refine .inl ⟨p, xs, rfl, .inl (.inl (Sel.sub _ _ _ _ _ _ h1 rfl)), fun l nl => ?_⟩
        have o2 := out_tup (Sel.sub fa.t? Z H H1) nl h2
        exact hm _ _ (x1.trans (Ex.of_same (same_upd nl))) (t1.ext (same_upd nl)) (o2.comp x1 (Ex.of_same (same_upd nl)))
      | tuple ds =>
        intro hm v H1 x1 t1 o1
        have o2 := o1.sel
        obtain ⟨p, xs, rfl, h1, h2⟩ := o2
        refine .inr ⟨p, xs, rfl, SqT.sb (Sel.sub _ _ _ _) h1, hm _ _ x1 t1 ?_⟩
        exact (out_z (Sel.sub fa.t? Z H H1) o1.sel).comp x1 (Ex.refl _)
      | none => exact fun hm => hm.elim
      | bool _ => exact fun hm => hm.elim
      | int _ => exact fun hm => hm.elim
      | str _ => exact fun hm => hm.elim
      | dict _ => exact fun hm => hm.elim
end
end VL
namespace VL
open PySem PySem.Spec PyProof.Rows L2
section
variable {X : Cx} {K : Kf} {Tb : Tbs} {C : Cn} {E : XK} {G : List SM} {fl fa fb f0 : Fl} {a b : Expr} {ma mb : En → R Dt} {pos : Pos}
/-! ### in, not in: a list or tuple of data of any depth -/
def memb (d : Dt) (ds : List Dt) : Bool := ds.any fun z => PyData.eqv z d
def inD (d1 d2 : Dt) : Option Dt := match d2 with
  | .list ds => if eqOk d1 (.list ds) = true then some (.bool (memb d1 ds)) else none
  | .tuple ds => if eqOk d1 (.tuple ds) = true then some (.bool (memb d1 ds)) else none
  | _ => none
def ninD (d1 d2 : Dt) : Option Dt := match d2 with
  | .list ds => if eqOk d1 (.list ds) = true then some (.bool (!memb d1 ds)) else none
  | .tuple ds => if eqOk d1 (.tuple ds) = true then some (.bool (!memb d1 ds)) else none
  | _ => none
def rInA (K : Kf) (neg : Bool) : R2 := fun x y H Q => ∃ d ds, Dp K H x d ∧ (Dp K H y (.list ds) ∨ Dp K H y (.tuple ds)) ∧ SeqAt.shaped d = true ∧ PyData.canLayAll0 ds = true ∧ Q (.bl (if neg = true then !memb d ds else memb d ds)) H
theorem op_inA (hu : X.A.units + 65 < cLine) : OpR X (compareOp .In) (rInA X.K false) := by
  intro pins s σ H x y v u Q I rx ry h
  obtain ⟨d, ds, hd, he, sd, se, q⟩ := h
  obtain ⟨as, r1⟩ := Dp.reads I d x v hd rx
  rcases he with he | he
  · obtain ⟨bs, r2⟩ := Dp.reads I (.list ds) y u he ry
    exact SeqAt.in_list_reads r2 r1 se (SeqAt.canLay_of_shaped sd) (room_in_shaped sd hu) ⟨.bl _, H, I, rfl, q⟩
  · obtain ⟨bs, r2⟩ := Dp.reads I (.tuple ds) y u he ry
    exact SeqAt.in_tuple_reads r2 r1 se (SeqAt.canLay_of_shaped sd) (room_in_shaped sd hu) ⟨.bl _, H, I, rfl, q⟩
theorem op_ninA (hu : X.A.units + 65 < cLine) : OpR X (compareOp .NotIn) (rInA X.K true) := by
  intro pins s σ H x y v u Q I rx ry h
  obtain ⟨d, ds, hd, he, sd, se, q⟩ := h
  obtain ⟨as, r1⟩ := Dp.reads I d x v hd rx
  rcases he with he | he
  · obtain ⟨bs, r2⟩ := Dp.reads I (.list ds) y u he ry
    exact SeqAt.notIn_list_reads r2 r1 se (SeqAt.canLay_of_shaped sd) (room_in_shaped sd hu) ⟨.bl _, H, I, rfl, q⟩
  · obtain ⟨bs, r2⟩ := Dp.reads I (.tuple ds) y u he ry
    exact SeqAt.notIn_tuple_reads r2 r1 se (SeqAt.canLay_of_shaped sd) (room_in_shaped sd hu) ⟨.bl _, H, I, rfl, q⟩
theorem inD_ok : OpD K .z inD (rInA K false) := fun S H d1 d2 x y d Q fit s r1 r2 e k => by
  unfold inD at e
  split at e
  · rename_i ds
    split at e
    · rename_i h
      cases e
      obtain ⟨h1, h2, h3, h4⟩ := eqOk_of h
      refine ⟨d1, ds, RV.dp s _ _ h1 r1, .inl (RV.dp s _ _ h2 r2), h3, ?_, k _ H (Same.refl _) rfl⟩
      simpa [PyData.canLay0] using SeqAt.canLay_of_shaped h4
    · cases e
  · rename_i ds
    split at e
    · rename_i h
      cases e
      obtain ⟨h1, h2, h3, h4⟩ := eqOk_of h
      refine ⟨d1, ds, RV.dp s _ _ h1 r1, .inr (RV.dp s _ _ h2 r2), h3, ?_, k _ H (Same.refl _) rfl⟩
      simpa [PyData.canLay0] using SeqAt.canLay_of_shaped h4
    · cases e
  · cases e
theorem ninD_ok : OpD K .z ninD (rInA K true) := fun S H d1 d2 x y d Q fit s r1 r2 e k => by
  unfold ninD at e
  split at e
  · rename_i ds
    split at e
    · rename_i h
      cases e
      obtain ⟨h1, h2, h3, h4⟩ := eqOk_of h
      refine ⟨d1, ds, RV.dp s _ _ h1 r1, .inl (RV.dp s _ _ h2 r2), h3, ?_, k _ H (Same.refl _) rfl⟩
      simpa [PyData.canLay0] using SeqAt.canLay_of_shaped h4
    · cases e
  · rename_i ds
    split at e
    · rename_i h
      cases e
      obtain ⟨h1, h2, h3, h4⟩ := eqOk_of h
      refine ⟨d1, ds, RV.dp s _ _ h1 r1, .inr (RV.dp s _ _ h2 r2), h3, ?_, k _ H (Same.refl _) rfl⟩
      simpa [PyData.canLay0] using SeqAt.canLay_of_shaped h4
    · cases e
  · cases e
theorem hu65 {X : Cx} {k : Nat} (h : Room k X.A) : X.A.units + 65 < cLine := by have := h.un; omega
/-! ### methods that change nothing -/
def MtD (K : Kf) (T : String) (f0 : Fl) (f : Dt → List Dt → Option Dt) (r : V → List V → Hp → VK → Prop) : Prop := ∀ (S H : Hp) (d1 : Dt) (ds : List Dt) (x : V) (vs : List V) (d : Dt) (Q : VK), Fit H → Sb S H → RV K S d1 x → RVs K S ds vs → f d1 ds = some d →
  (∀ v H', Same H H' → Out K f0 S H H' d v → Q v H') → r x vs H Q
def tyD (T : String) : Dt → Bool
  | .str _ => T == "str"
  | .list _ => T == "list"
  | _ => false
theorem rv_tyV {S H : Hp} {T : String} (s : Sb S H) {d : Dt} {x : V} (r : RV K S d x) (h : tyD T d = true) : tyV K T x H := by
  unfold tyD at h
  split at h
  · cases r
    exact eq_of_beq h
  · obtain ⟨p, xs, rfl, h1, _⟩ := r
    exact .inl ⟨eq_of_beq h, xs, .inl (.inl (s _ _ h1 rfl))⟩
  · cases h
def qM (T : String) (f : Dt → List Dt → Option Dt) (m : En → R Dt) (ml : En → R (List Dt)) : En → R Dt := fun e => (m e).bind fun d => if tyD T d = true then (ml e).bind fun ds => R.ofO (f d ds) else .bad
theorem vq_mt {T id : String} {name : Str} {e : Expr} {es : List Expr} {t : Bool} {apos : Pos} {f : Dt → List Dt → Option Dt} {ml : En → R (List Dt)} {r : V → List V → Hp → VK → Prop} (pa : PlainAttrs T) (slot : Slot T name id) (hty : typeOf (.builtin id) = pure (.type "method_descriptor")) (hm : MtR X id r) (hd : MtD X.K T f0 f r) (ho : VQ X Tb C E G fa ma a) (ha : VA X Tb C E G t ml (e :: es))
    (hbase : attributeBase a name X.env (eval a X.env) = eval a X.env := by rfl)
    (hfew : ((backTo pos (starEach (e :: es) X.env)).all (fun x => !x.1) && (backToKw pos (keywordEach [] X.env)).all (fun x => x.1.isSome)
      && decide ((e :: es).length + ([] : List Keyword).length + (if ([] : List Keyword).isEmpty then 0 else 1) < 30)) = true := by rfl)
    (hline : (apos.endLine == pos.line) = true := by rfl) (hs : starEach (e :: es) X.env = (false, eval e X.env) :: starEach es X.env := by rfl) (hplain : (backTo pos (starEach es X.env)).any (·.1) = false := by rfl) :
    VQ X Tb C E G (Fl.on (fa.t? || t) f0) (qM T f ma ml) (.Call (.Attribute a name apos) (e :: es) [] pos) :=
  PE.weak (pe_bm pa slot hty hm ho (PA.fit ha) hbase hfew hline hs hplain) fun σ H Q fit hq => by
    obtain ⟨Z, en, w, hm⟩ := hq
    refine ⟨Z, en, w, ?_⟩
    unfold qM at hm
    revert hm
    cases ma en with
    | exc x => exact fun hm => hm
    | bad => exact fun hm => hm
    | ok d1 =>
      dsimp only [R.bind]
      by_cases hT : tyD T d1 = true
      · rw [if_pos hT]
        intro hm x H1 x1 t1 o1
        refine ⟨rv_tyV (S := H1) (Sb.refl _) o1.rv hT, fun _ => ⟨_, en, w.ext x1 t1, ?_⟩⟩
        revert hm
        cases ml en with
        | exc x => exact fun hm => EXC.of hm x1
        | bad => exact fun hm => hm
        | ok ds =>
          dsimp only
          cases hf : f d1 ds with
          | none => exact fun hm => hm.elim
          | some d =>
            intro hm vs H2 x2 t2 o2 fit2
            have x12 := x1.trans x2
            have r1 : RV X.K (Sel (fa.t? || t) Z H H2) d1 x := RV.sb ((Sel.mono (fun h => by rw [h]; rfl) Z H H1).trans (Sel.later _ x2)) _ _ o1.sel
            have r2 : RVs X.K (Sel (fa.t? || t) Z H H2) ds vs := by
              have q2 : Sb (Sel t (nw Z H H1) H1 H2) (Sel t Z H H2) := by
                cases t with
                | true => exact Sb.refl _
                | false => exact nw_nw x1 x2
              exact RVs.sb (q2.trans (Sel.mono (fun h => by rw [h]; simp) Z H H2)) _ _ o2
            refine hd _ H2 d1 ds x vs d Q fit2 (Sel.sub _ Z H H2) r1 r2 hf fun v H' sm o => ?_
            exact hm v H' (x12.trans (Ex.of_same sm)) (t2.ext sm) (o.comp x12 (Ex.of_same sm))
      · rw [if_neg hT]
        exact fun hm => hm.elim
/-! list.count, list.index -/
def cntD : Dt → List Dt → Option Dt
  | .list ds, [d] => if eqOk d (.list ds) = true then some (.int (ds.countP fun z => PyData.eqv z d : Nat)) else none
  | _, _ => none
def ixof (d : Dt) : List Dt → Option Nat
  | [] => none
  | z :: r => if PyData.eqv z d = true then some 0 else (ixof d r).map (· + 1)
def idxD : Dt → List Dt → Option Dt
  | .list ds, [d] => if eqOk d (.list ds) = true then (ixof d ds).map fun (j : Nat) => .int (j : Nat) else none
  | _, _ => none
theorem ixof_ok {d : Dt} : ∀ {ds : List Dt} {j : Nat}, ixof d ds = some j → (∃ z, ds[j]? = some z ∧ PyData.eqv z d = true) ∧ ∀ (m : Nat) (z' : Dt), m < j → ds[m]? = some z' → PyData.eqv z' d = false
  | [], j, h => by cases h
  | z :: r, j, h => by
    unfold ixof at h
    split at h
    · rename_i hz
      cases h
      exact ⟨⟨z, rfl, hz⟩, fun m z' hm => by omega⟩
    · rename_i hz
      rw [Option.map_eq_some_iff] at h
      obtain ⟨k, h1, rfl⟩ := h
      obtain ⟨⟨y, h2, h3⟩, h4⟩ := ixof_ok h1
      refine ⟨⟨y, by simpa using h2, h3⟩, fun m z' hm he => ?_⟩
      cases m with
      | zero =>
        simp at he
        subst he
        simpa using hz
      | succ m => exact h4 m z' (by omega) (by simpa using he)
theorem idxD_ok : MtD K "list" .z idxD (rIndexD K) := fun S H d1 ds x vs d Q fit s r1 r2 e k => by
  unfold idxD at e
  split at e
  · split at e
    · rename_i h
      obtain ⟨h1, h2, h3, h4⟩ := eqOk_of h
      rw [Option.map_eq_some_iff] at e
      obtain ⟨j, h5, rfl⟩ := e
      obtain ⟨⟨z, h6, h7⟩, h8⟩ := ixof_ok h5
      obtain ⟨y, ys, rfl, h9, h10⟩ := r2
      cases h10
      have hl := RV.dp s _ _ h2 r1
      obtain ⟨p, xs, rfl, _⟩ := r1
      exact ⟨p, y, _, _, j, z, rfl, rfl, hl, RV.dp s _ _ h1 h9, h4, h3, h6, h7, h8, k _ H (Same.refl _) rfl⟩
    · cases e
  · cases e
def rCntD (K : Kf) : V → List V → Hp → VK → Prop := fun x xs H Q => ∃ (a : Addr) (y : V) (d : PyData) (ds : List PyData), x = V.ref a ∧ xs = [y] ∧ Dp K H (V.ref a) (.list ds) ∧ Dp K H y d ∧
  SeqAt.shaped (.list ds) = true ∧ SeqAt.shaped d = true ∧ Q (.int ((ds.countP fun z => PyData.eqv z d : Nat) : Int)) H
theorem mt_countD (hu : X.A.units + 65 < cLine) : MtR X "list.count" (rCntD X.K) := by
  intro pins s σ H x xs v us Q I rx rxs h
  obtain ⟨a, y, d, ds, rfl, rfl, hl, hy, sl, sd, q⟩ := h
  cases rx
  obtain ⟨uy, rfl, ry⟩ := rxs.one
  obtain ⟨bs, r1⟩ := Dp.reads I d y uy hy ry
  have hxs : PyData.canLayAll0 ds = true := by simpa [PyData.canLay0] using SeqAt.canLay_of_shaped sl
  have hroom : X.A.units + 1 + min (PyData.depthAll ds) d.depth < cLine := room_in_shaped sd hu
  cases hl with
  | lst hs ha =>
    obtain ⟨its, rv, ⟨⟨cls, dd, data, sls⟩, n, ho, hc, hdn, hdt⟩, hlen⟩ := I.list hs
    simp only at hc hdt
    subst hc hdt
    obtain ⟨as, h4⟩ := Dp.readsAll I ds _ its ha rv
    have hmap : its.map (SeqAt.readOf s.heap) = ds := SeqAt.readsAll_map ds its as hxs h4
    refine call_meets PySem.F.slot_list_count ⟨_, ho, rfl⟩ PySem.F.entry_list_count (PySem.F.args_list_count_2 _ _)
      (SeqAt.list_countAt a its.toArray n dd sls uy (fun u => PyData.eqv (SeqAt.readOf s.heap u) d)) ⟨ho, SeqAt.items_eqAt (vs := its.toArray) (show ReadsAll s.heap its.toArray.toList ds as from h4) r1 hxs (SeqAt.canLay_of_shaped sd) hroom, ?_⟩
    refine ⟨.int ((ds.countP fun z => PyData.eqv z d : Nat) : Int), H, I.tok _, ⟨s.toks, ?_⟩, q⟩
    have ec : its.countP (fun u => PyData.eqv (SeqAt.readOf s.heap u) d) = ds.countP fun z => PyData.eqv z d := by
      rw [← hmap, List.countP_map]
      rfl
    show Value.int ((its.countP (fun u => PyData.eqv (SeqAt.readOf s.heap u) d) : Nat) : Int) s.toks = _
    rw [ec]
theorem cntD_ok : MtD K "list" .z cntD (rCntD K) := fun S H d1 ds x vs d Q fit s r1 r2 e k => by
  unfold cntD at e
  split at e
  · split at e
    · rename_i h
      obtain ⟨h1, h2, h3, h4⟩ := eqOk_of h
      cases e
      obtain ⟨y, ys, rfl, h9, h10⟩ := r2
      cases h10
      have hl := RV.dp s _ _ h2 r1
      obtain ⟨p, xs, rfl, _⟩ := r1
      exact ⟨p, y, _, _, rfl, rfl, hl, RV.dp s _ _ h1 h9, h4, h3, k _ H (Same.refl _) rfl⟩
    · cases e
  · cases e
theorem md_count : typeOf (.builtin "list.count") = pure (.type "method_descriptor") := by first | exact F.type_list_count | rfl | kernel_rfl
theorem md_index : typeOf (.builtin "list.index") = pure (.type "method_descriptor") := by first | exact F.type_list_index | rfl | kernel_rfl
end
end VL
namespace VL
open PySem PySem.Spec PyProof.Rows L2
/-! ### a list or a tuple, one way -/
def sIt (t : Bool) (h : Heap) (it a : Addr) (i : Nat) : Prop := match t with
  | true => h.IsTupleIter it a i
  | false => h.IsListIter it a i
def sSq (t : Bool) (K : Kf) (H : Hp) (a : Addr) (xs : List V) : Prop := match t with
  | true => SqT K H a xs
  | false => SqL K H a xs
def sRaw (t : Bool) (h : Heap) (a : Addr) (its : Array Value) : Prop := match t with
  | true => h.IsTuple a its
  | false => h.IsList a its
def sObj (t : Bool) (a : Addr) : Obj := match t with
  | true => { cls := .type "tuple_iterator", data := .fields #[.ref a, .int 0 0] }
  | false => { cls := .type "list_iterator", data := .fields #[.ref a, .int 0 0] }
theorem sDraws {prog : Program} {w : World} {A : Around} (t : Bool) (hh : A.handled = none) (it a : Addr) (hne : a ≠ it) (its : Array Value) :
    Draws prog w A it [it, a] its.size (fun i v => its[i]? = some v) (fun i h => sIt t h it a i ∧ sRaw t h a its) := by
  cases t with
  | true => exact Draws.tuple hh it a hne its
  | false => exact Draws.list hh it a hne its
theorem sBegins (t : Bool) (a : Addr) (its : Array Value) : Begins (.ref a) (sObj t a) fun h => sRaw t h a its := by
  cases t with
  | true => exact begins_tuple a its
  | false => exact begins_list a its
theorem sIt_of {t : Bool} {h : Heap} {it a : Addr} (e : h.get? it = some (sObj t a)) : sIt t h it a 0 := by
  cases t with
  | true => exact ⟨_, e, rfl, rfl⟩
  | false => exact ⟨_, e, rfl, rfl⟩
theorem sIt.at {t : Bool} {h h' : Heap} {it a : Addr} {i : Nat} (x : sIt t h it a i) (e : ∀ o, h.get? it = some o → h'.get? it = some o) : sIt t h' it a i := by
  cases t with
  | true => exact Heap.IsTupleIter.at x e
  | false => exact Heap.IsListIter.at x e
theorem sIt.ne {t : Bool} {h : Heap} {it a : Addr} {i : Nat} {its : Array Value} (x : sIt t h it a i) (p : sRaw t h a its) : a ≠ it := fun e => by
  cases t with
  | true =>
    obtain ⟨o2, q3, q4, _⟩ := p
    obtain ⟨o3, q5, q6, _⟩ := x
    rw [e, q5] at q3
    cases q3
    rw [q6] at q4
    injection q4 with z
    exact absurd z (by decide)
  | false =>
    obtain ⟨o2, q3, q4, _⟩ := p
    obtain ⟨o3, q5, q6, _⟩ := x
    rw [e, q5] at q3
    cases q3
    rw [q6] at q4
    injection q4 with z
    exact absurd z (by decide)
theorem sIt.obj {t : Bool} {h : Heap} {it a : Addr} {i : Nat} (x : sIt t h it a i) : ∃ o, h.get? it = some o ∧ ∀ v, o.data ≠ .cell v := by
  cases t with
  | true => obtain ⟨o, e, _, d⟩ := x; exact ⟨o, e, fun v q => by rw [d] at q; cases q⟩
  | false => obtain ⟨o, e, _, d⟩ := x; exact ⟨o, e, fun v q => by rw [d] at q; cases q⟩
section
variable {X : Cx} {pins : List (Addr × Obj)} {σ : L2.St} {H : Hp} {s : Shared}
theorem sSq.get {t : Bool} {a : Addr} {xs : List V} (I : Inv X pins σ H s) (h : sSq t X.K H a xs) : ∃ its : List Value, Vals xs its ∧ sRaw t s.heap a its.toArray ∧ xs.length ≤ sizeLine ∧ a < s.heap.objs.size := by
  cases t with
  | true =>
    obtain ⟨its, r, p, z⟩ := I.tuple h
    exact ⟨its, r, p, z, p.lt⟩
  | false =>
    obtain ⟨its, r, p, z⟩ := I.list h
    exact ⟨its, r, p.isList, z, p.lt⟩
theorem sSq.inj {t : Bool} {a : Addr} {xs ys : List V} (I : Inv X pins σ H s) (h : sSq t X.K H a xs) (k : sSq t X.K H a ys) : xs = ys := by
  cases t with
  | true => exact I.tuple_inj h k
  | false => exact I.list_inj h k
end
theorem sSq.sb {t : Bool} {K : Kf} {S S' : Hp} {a : Addr} {xs : List V} (h : Sb S S') (r : sSq t K S a xs) : sSq t K S' a xs := by
  cases t with
  | true => exact SqT.sb h r
  | false => exact SqL.sb h r
/-! ### zip -/
def ItzM (K : Kf) (t1 t2 : Bool) (a b : Addr) : It :=
  ⟨fun i H => ∃ (xs ys : List V), sSq t1 K H a xs ∧ sSq t2 K H b ys ∧ i < xs.length ∧ i < ys.length,
    fun i H v H' => ∃ T x y, v = .ref T ∧ H T = none ∧ H' = upd H T (.tup [x, y]) ∧ (∀ xs, sSq t1 K H a xs → xs[i]? = some x) ∧ ∀ ys, sSq t2 K H b ys → ys[i]? = some y,
    fun i H => ∃ xs ys : List V, sSq t1 K H a xs ∧ sSq t2 K H b ys ∧ i = min xs.length ys.length⟩
theorem turn_zipM {P : Program} {w : World} {K : Kf} {elts : List Expr} {kk : Nat} {tpos : Pos} {a b z TI TO i1 i2 : Addr} (t1 t2 : Bool) (D : ZipSep2 z TI TO i1 i2 [i1, a] [i2, b]) :
    Turn P w K (.Tuple elts kk tpos) (ItzM K t1 t2 a b) [z, TI, TO, i1, i2] z (fun i h => IsZip h z TI TO .none ∧ IsTupOf2 h TI (.ref i1) (.ref i2) ∧ (∃ x y, IsTupOf2 h TO x y) ∧ sIt t1 h i1 a i ∧ sIt t2 h i2 b i) where
  mem := by simp
  obj := fun i h st c hc => by
    obtain ⟨hz, hTI, ⟨x, y, hTO⟩, h1, h2⟩ := st
    have e' : c = z ∨ c = TI ∨ c = TO ∨ c = i1 ∨ c = i2 := by simpa using hc
    rcases e' with q | q | q | q | q
    · rw [q]; exact ⟨_, hz, fun v q => nomatch q⟩
    · rw [q]; exact ⟨_, hTI, fun v q => nomatch q⟩
    · rw [q]; exact ⟨_, hTO, fun v q => nomatch q⟩
    · rw [q]; exact h1.obj
    · rw [q]; exact h2.obj
  keep := fun i h h' st k => by
    obtain ⟨hz, hTI, ⟨x, y, hTO⟩, h1, h2⟩ := st
    exact ⟨k z (by simp) _ hz, k TI (by simp) _ hTI, ⟨x, y, k TO (by simp) _ hTO⟩, h1.at fun o q => k i1 (by simp) o q, h2.at fun o q => k i2 (by simp) o q⟩
  item := by
    intro X hP hw hK hc i pins s σ H E I hf st hg
    subst hP hw hK
    obtain ⟨hz, hTI, ⟨x0, y0, hTO⟩, h1, h2⟩ := st
    obtain ⟨xs, ys, hqx, hqy, hx, hy⟩ := hg
    obtain ⟨its, rv, p, _⟩ := hqx.get I
    obtain ⟨its2, rv2, p2, _⟩ := hqy.get I
    have l1 := rv.length
    have l2 := rv2.length
    have hne1 := h1.ne p
    have hne2 := h2.ne p2
    have W := GoesN.zip2 (elts := elts) (x1 := kk) (pos := tpos) D (sDraws (prog := X.prog) (w := X.w) (A := X.A.in1) t1 (I.ok.hd hc) i1 a hne1 its.toArray) (sDraws (prog := X.prog) (w := X.w) (A := X.A.in1) t2 (I.ok.hd hc) i2 b hne2 its2.toArray)
    refine wpAny_mono (W.goes i s (fun u s2 => ∃ x H', Inv X pins σ H' s2 ∧ RelV x u ∧ (ItzM X.K t1 t2 a b).yld i H x H' ∧ (IsZip s2.heap z TI TO .none ∧ IsTupOf2 s2.heap TI (.ref i1) (.ref i2) ∧ (∃ x y, IsTupOf2 s2.heap TO x y) ∧ sIt t1 s2.heap i1 a (i + 1) ∧ sIt t2 s2.heap i2 b (i + 1)) ∧ ∀ b ∈ [z, TI, TO, i1, i2], H' b = none) E (by simp; omega) ⟨hz, hTI, ⟨x0, y0, hTO⟩, ⟨h1, p⟩, h2, p2⟩ fun v h' tk hY st' hk htk => ?_) (fun r s1 h => h) fun _ _ h => h
    obtain ⟨T, u, u2, rfl, hnew, hu, hu2, o, ho, hc1, n, hd⟩ := hY
    obtain ⟨z', TI', TO', h1', h2'⟩ := st'
    have hix : i < its.length := by omega
    have hix2 : i < its2.length := by omega
    have eu : u = its[i] := by
      have := hu
      simp [hix] at this
      exact this.symm
    have eu2 : u2 = its2[i] := by
      have := hu2
      simp [hix2] at this
      exact this.symm
    subst eu eu2
    obtain ⟨u, q1, ru⟩ := rv.get (List.getElem?_eq_getElem hx)
    obtain ⟨u2, q2, ru2⟩ := rv2.get (List.getElem?_eq_getElem hy)
    rw [List.getElem?_eq_getElem hix] at q1
    rw [List.getElem?_eq_getElem hix2] at q2
    cases q1
    cases q2
    have hTn : H T = none := I.hok.fresh hnew
    have new : ObjOk X.prog X.w (upd H T (.tup [xs[i], ys[i]])) h' T (.tup [xs[i], ys[i]]) :=
      ⟨by show 2 ≤ sizeLine; decide, [its[i], its2[i]], .cons ru (.cons ru2 .nil), ⟨o, ho, hc1, n, hd⟩⟩
    have I1 : Inv X pins σ (upd H T (.tup [xs[i], ys[i]])) { s with heap := h', toks := tk } :=
      I.turnedNew (ch := [z, TI, TO, i1, i2]) (fun c o hb q => hk c o (fun hm => hb (by
        have e' : c = z ∨ c = TO ∨ c = i1 ∨ c = i2 := by simpa using hm
        rcases e' with q | q | q | q <;> simp [q])) q) hf hnew new
    refine ⟨.ref T, _, I1, rfl, ⟨T, _, _, rfl, hTn, rfl, fun l hl => by rw [hl.inj I hqx]; exact List.getElem?_eq_getElem hx, fun l hl => by rw [hl.inj I hqy]; exact List.getElem?_eq_getElem hy⟩, ⟨z', TI', TO', h1'.1, h2'.1⟩, fun c hcm => ?_⟩
    have hlt : c < s.heap.objs.size := by
      have e' : c = z ∨ c = TI ∨ c = TO ∨ c = i1 ∨ c = i2 := by simpa using hcm
      rcases e' with q | q | q | q | q
      · rw [q]; exact Heap.lt_size hz
      · rw [q]; exact Heap.lt_size hTI
      · rw [q]; exact Heap.lt_size hTO
      · rw [q]; obtain ⟨_, e1, _⟩ := h1.obj; exact Heap.lt_size e1
      · rw [q]; obtain ⟨_, e2, _⟩ := h2.obj; exact Heap.lt_size e2
    rw [upd_ne (Nat.ne_of_lt (Nat.lt_of_lt_of_le hlt hnew))]
    exact (hf c hcm).1
  done := by
    intro X hP hw hK hc i pins s σ H E I hf st hg
    subst hP hw hK
    obtain ⟨hz, hTI, ⟨x0, y0, hTO⟩, h1, h2⟩ := st
    obtain ⟨xs, ys, hqx, hqy, rfl⟩ := hg
    obtain ⟨its, rv, p, _⟩ := hqx.get I
    obtain ⟨its2, rv2, p2, _⟩ := hqy.get I
    have l1 := rv.length
    have l2 := rv2.length
    have hne1 := h1.ne p
    have hne2 := h2.ne p2
    have W := GoesN.zip2 (elts := elts) (x1 := kk) (pos := tpos) D (sDraws (prog := X.prog) (w := X.w) (A := X.A.in1) t1 (I.ok.hd hc) i1 a hne1 its.toArray) (sDraws (prog := X.prog) (w := X.w) (A := X.A.in1) t2 (I.ok.hd hc) i2 b hne2 its2.toArray)
    have en : min xs.length ys.length = min its.toArray.size its2.toArray.size := by simp [l1, l2]
    rw [en] at h1 h2
    exact W.stops s (fun s1 => Inv X pins σ H s1) E ⟨hz, hTI, ⟨x0, y0, hTO⟩, ⟨h1, p⟩, h2, p2⟩ fun h' tk hk htk => I.turnedL (ch := [z, TI, TO, i1, i2]) (fun c o hb q => hk c o (fun hm => hb (by
        have e' : c = z ∨ c = TO ∨ c = i1 ∨ c = i2 := by simpa using hm
        rcases e' with q | q | q | q <;> simp [q])) q) hf
  self := fun A i s Q E st h => wpAny_pyIter_zip st.1 h
def iZipM (K : Kf) (ta : TA) : TI := fun σ H R => ta σ H fun vs H1 => ∃ a b xs ys t1 t2, vs = [.ref a, .ref b] ∧ sSq t1 K H1 a xs ∧ sSq t2 K H1 b ys ∧ R (ItzM K t1 t2 a b) H1
theorem pi_zipM {X : Cx} {e e2 : Expr} {ta : TA} {p pos tpos : Pos} {elts : List Expr} {kk : Nat} (hg : Gl X "zip") (hm : X.mg "zip" = none) (ha : PA X [e, e2] ta)
    (hs : starEach [e, e2] X.env = (false, eval e X.env) :: starEach [e2] X.env := by rfl) (hpl : (backTo pos (starEach [e2] X.env)).any (·.1) = false := by rfl) :
    PI X (.Tuple elts kk tpos) (.Call (.Name "zip" p) [e, e2] [] pos) (iZipM X.K ta) := by
  refine ⟨fun pins s σ H R I h => ?_⟩
  refine Call_ (ld_blt I hg hm PyProof.Rows.boot_zip (PyProof.Rows.callWith_type1 (thn (ha.run pos pins s σ H _ I h) fun us s1 ⟨vs, H1, I1, r1, q1⟩ => ?_) hs hpl))
  obtain ⟨a, b, xs, ys, t1, t2, ex, hqx, hqy, q⟩ := q1
  subst ex
  cases r1 with
  | cons r rr =>
    cases rr with
    | cons r' rr =>
      cases rr
      cases r
      cases r'
      have fresh5 : ∀ c, c ∈ [s1.heap.objs.size + 4, s1.heap.objs.size + 2, s1.heap.objs.size + 3, s1.heap.objs.size, s1.heap.objs.size + 1] → FpOk X pins H1 c := fun c hcm => by
        have e' : c = s1.heap.objs.size + 4 ∨ c = s1.heap.objs.size + 2 ∨ c = s1.heap.objs.size + 3 ∨ c = s1.heap.objs.size ∨ c = s1.heap.objs.size + 1 := by simpa using hcm
        have hle : s1.heap.objs.size ≤ c := by
          rcases e' with z | z | z | z | z
          · rw [z]; exact Nat.le_add_right _ _
          · rw [z]; exact Nat.le_add_right _ _
          · rw [z]; exact Nat.le_add_right _ _
          · rw [z]; exact Nat.le_refl _
          · rw [z]; exact Nat.le_add_right _ _
        exact I1.fpOk hle (I1.hok.fresh hle)
      obtain ⟨its, rv, p1, _, la⟩ := hqx.get I1
      obtain ⟨its2, rv2, p2, _, lb⟩ := hqy.get I1
      refine zip_begins2 (sBegins t1 a its.toArray) (sBegins t2 b its2.toArray) p1 p2 fun h' hz hTI hTO h1 h2 hsz hk => wpAny_pyIter_zip hz ?_
      have I2 : Inv X pins σ H1 { s1 with heap := h' } := I1.kept (t' := s1.toks) hk
      have D : ZipSep2 (s1.heap.objs.size + 4) (s1.heap.objs.size + 2) (s1.heap.objs.size + 3) s1.heap.objs.size (s1.heap.objs.size + 1) [s1.heap.objs.size, a] [s1.heap.objs.size + 1, b] :=
        have A := PySem.W.ktu_apart s1.heap.objs.size a b la lb
        ⟨A.TIz, A.TOz, A.TITO, A.TIi1, by simp, by simp only [List.mem_cons, List.not_mem_nil, or_false]; exact fun q => q.elim A.i1z.symm A.l1z.symm, by simp only [List.mem_cons, List.not_mem_nil, or_false]; exact fun q => q.elim A.TOi1 A.l1TO.symm,
          A.TIi2, by simp, by simp only [List.mem_cons, List.not_mem_nil, or_false]; exact fun q => q.elim A.i2z.symm A.l2z.symm, by simp only [List.mem_cons, List.not_mem_nil, or_false]; exact fun q => q.elim A.TOi2 A.l2TO.symm,
          by simp only [List.mem_cons, List.not_mem_nil, or_false]; exact fun q => q.elim A.i12 A.l2i1.symm, by simp only [List.mem_cons, List.not_mem_nil, or_false]; exact fun q => q.elim A.i12.symm A.l1i2.symm⟩
      exact ⟨s1.heap.objs.size + 4, [s1.heap.objs.size + 4, s1.heap.objs.size + 2, s1.heap.objs.size + 3, s1.heap.objs.size, s1.heap.objs.size + 1], _, _, H1, rfl, I2, turn_zipM t1 t2 D, ⟨hz, hTI, ⟨_, _, hTO⟩, sIt_of h1, sIt_of h2⟩, fresh5, q⟩
def zipL (da db : List Dt) : List Dt := (da.zip db).map fun p => .tuple [p.1, p.2]
theorem itok_zip {K : Kf} {S : Hp} {a b : Addr} {t1 t2 : Bool} {xs ys : List V} {da db : List Dt} (h1 : sSq t1 K S a xs) (h2 : sSq t2 K S b ys) (r1 : RVs K S da xs) (r2 : RVs K S db ys) (hl : xs.length ≤ sizeLine) : ItOk K S (ItzM K t1 t2 a b) (zipL da db) where
  len := by
    have := r1.len
    unfold zipL
    simp
    omega
  go := fun i H s hi => by
    have l1 := r1.len
    have l2 := r2.len
    have hi2 : i < da.length ∧ i < db.length := by
      unfold zipL at hi
      have h3 : i < min da.length db.length := by simpa using hi
      omega
    refine ⟨⟨xs, ys, h1.sb s, h2.sb s, by omega, by omega⟩, fun x H' hy => ?_⟩
    obtain ⟨T, x, y, rfl, hT, rfl, f1, f2⟩ := hy
    obtain ⟨v1, e1, e2⟩ := r1.get (List.getElem?_eq_getElem hi2.1)
    obtain ⟨v2, e3, e4⟩ := r2.get (List.getElem?_eq_getElem hi2.2)
    have g1 := f1 xs (h1.sb s)
    have g2 := f2 ys (h2.sb s)
    rw [e1] at g1
    rw [e3] at g2
    cases g1
    cases g2
    refine ⟨same_upd hT, .tuple [da[i], db[i]], ?_, out_tup s hT ⟨x, _, rfl, e2, y, _, rfl, e4, rfl⟩⟩
    unfold zipL
    rw [List.getElem?_map]
    have hz : i < (da.zip db).length := by simp; omega
    rw [List.getElem?_eq_getElem hz]
    simp
  stop := fun i H s hi => by
    have l1 := r1.len
    have l2 := r2.len
    refine ⟨xs, ys, h1.sb s, h2.sb s, ?_⟩
    rw [hi]
    unfold zipL
    simp [l1, l2]
section
variable {X : Cx} {Tb : Tbs} {C : Cn} {E : XK} {G : List SM} {fl : Fl} {e e2 : Expr} {m m2 : En → R Dt} {pos : Pos}
theorem seq_sq {K : Kf} {S : Hp} {d : Dt} {ds : List Dt} {v : V} (h : seqD d = some ds) (r : RV K S d v) : ∃ a xs t, v = .ref a ∧ sSq t K S a xs ∧ RVs K S ds xs := by
  rcases seqD_ok h with rfl | rfl
  · obtain ⟨a, xs, rfl, h1, h2⟩ := r
    exact ⟨a, xs, false, rfl, .inl (.inl h1), h2⟩
  · obtain ⟨a, xs, rfl, h1, h2⟩ := r
    exact ⟨a, xs, true, rfl, h1, h2⟩
def zipO : List Dt → Option (List Dt)
  | [d1, d2] => (seqD d1).bind fun a => (seqD d2).map fun b => zipL a b
  | _ => none
theorem vi_zip {p tpos : Pos} {elts : List Expr} {kk : Nat} {ml : En → R (List Dt)} (hg : Gl X "zip") (hm : X.mg "zip" = none) (ha : VA X Tb C E G false ml [e, e2])
    (hs : starEach [e, e2] X.env = (false, eval e X.env) :: starEach [e2] X.env := by rfl) (hpl : (backTo pos (starEach [e2] X.env)).any (·.1) = false := by rfl) :
    VI X Tb C E G (iOf zipO ml) (.Tuple elts kk tpos) (.Call (.Name "zip" p) [e, e2] [] pos) := PI.weak (pi_zipM hg hm (PA.fit ha) hs hpl) fun σ H Q fit0 hq => fun _ => by
  obtain ⟨Z, en, w, hm⟩ := hq
  refine ⟨Z, en, w, ?_⟩
  unfold iOf at hm
  revert hm
  cases ml en with
  | exc x => exact fun hm => hm
  | bad => exact fun hm => hm
  | ok ds =>
    dsimp only [R.bind]
    cases hf : zipO ds with
    | none => exact fun hm => hm.elim
    | some ds' =>
      intro hm vs H1 x1 t1 o1 fit1
      unfold zipO at hf
      split at hf
      · rename_i d1 d2
        rw [Option.bind_eq_some_iff] at hf
        obtain ⟨da, f1, f2⟩ := hf
        rw [Option.map_eq_some_iff] at f2
        obtain ⟨db, f3, rfl⟩ := f2
        obtain ⟨y1, ys1, rfl, r1, y2, ys2, rfl, r2, r3⟩ := o1
        cases r3
        obtain ⟨a, xs, ta, rfl, s1, q1⟩ := seq_sq f1 r1
        obtain ⟨b, ys, tb, rfl, s2, q2⟩ := seq_sq f3 r2
        have hl : xs.length ≤ sizeLine := by
          have s3 := s1.sb (nw_sub Z H H1)
          cases ta with
          | true =>
            rcases s3 with h4 | ⟨o, its, n, _, _, _, hz, r⟩
            · exact fit1 a xs (.inr h4)
            · rw [r.length]; simpa using hz
          | false =>
            rcases s3 with h4 | ⟨o, its, n, _, _, _, _, hz, r⟩
            · exact fit1 a xs (.inl h4)
            · rw [r.length]; simpa using hz
        exact ⟨a, b, xs, ys, ta, tb, rfl, s1.sb (nw_sub _ _ _), s2.sb (nw_sub _ _ _), hm _ H1 x1 t1 (itok_zip s1 s2 q1 q2 hl)⟩
      · cases hf
end
end VL
namespace VL
open PySem PySem.Spec PyProof.Rows L2
/-! ### readings that may change owned objects -/
def Slt (G : List SM) (σ : L2.St) (a : Addr) : Prop := ∃ i : Nat, (G[i]? = some SM.own ∨ G[i]? = some SM.io) ∧ σ[i]? = some (some (.ref a))
structure ExS (G : List SM) (σ : L2.St) (H H' : Hp) : Prop where
  ke : ∀ a o, H a = some o → nt o = true → ¬ Slt G σ a → H' a = some o
  tb : ∀ a ps, H a = some (.tbl ps) → ∃ ps', H' a = some (.tbl ps')
  sl : ∀ a o, Slt G σ a → H a = some o → isTp o = false → nt o = true → ∃ o', H' a = some o' ∧ isTp o' = false ∧ nt o' = true
structure Go (G : List SM) (σ : L2.St) (Z H Z' H' : Hp) : Prop where
  s : Sb Z Z'
  n : Sb Z' (nw Z H H')
  x : ExS G σ H H'
section
variable {K : Kf} {Tb : Tbs} {C : Cn} {G : List SM} {Z Z' Z1 Z2 H H' H1 H2 : Hp} {e : En} {σ : L2.St}
theorem ExS.of {H H' : Hp} (x : Ex H H') : ExS G σ H H' := ⟨fun a o e n _ => x.ke a o e n, x.tb, fun a o _ e t n => ⟨o, x.ke a o e n, t, n⟩⟩
theorem ExS.trans (x : ExS G σ H H1) (y : ExS G σ H1 H2) : ExS G σ H H2 where
  ke := fun a o e n s => y.ke a o (x.ke a o e n s) n s
  tb := fun a ps e => by
    obtain ⟨p, e1⟩ := x.tb a ps e
    exact y.tb a p e1
  sl := fun a o s e t n => by
    obtain ⟨o1, e1, t1, n1⟩ := x.sl a o s e t n
    exact y.sl a o1 s e1 t1 n1
theorem Wf.slt (w : Wf K Tb C G Z e σ H) {a : Addr} (s : Slt G σ a) : Z a = none ∧ ∃ o, H a = some o ∧ isTp o = false ∧ nt o = true := by
  obtain ⟨i, hi, hs⟩ := s
  rcases hi with hi | hi
  · obtain ⟨ov, h1, b, h2, h3, h4, h5⟩ := w.sl i _ hi
    rw [hs] at h1
    cases h1
    cases h2
    obtain ⟨o, q1, q2, q3, _⟩ := h3.obj
    exact ⟨h5, o, q1, q2, q3⟩
  · obtain ⟨ov, h1, b, h2, h3, h4⟩ := w.sl i _ hi
    rw [hs] at h1
    cases h1
    cases h2
    obtain ⟨o, q1, q2, q3, _⟩ := h3.obj
    exact ⟨(w.g.ih _ h4).2.1, o, q1, q2, q3⟩
theorem ExS.none (w : Wf K Tb C G Z e σ H) (x : ExS G σ H H') {a : Addr} (n : H' a = none) : H a = none := by
  cases q : H a with
  | none => rfl
  | some o =>
    cases q2 : nt o with
    | true =>
      by_cases hs : Slt G σ a
      · obtain ⟨_, o1, e1, t1, n1⟩ := w.slt hs
        obtain ⟨o2, e2, _⟩ := x.sl a o1 hs e1 t1 n1
        rw [n] at e2
        cases e2
      · rw [x.ke a o q q2 hs] at n
        cases n
    | false =>
      cases o with
      | tbl ps =>
        obtain ⟨p, e1⟩ := x.tb a ps q
        rw [n] at e1
        cases e1
      | _ => cases q2
theorem nw_nwS (w : Wf K Tb C G Z e σ H) (x1 : ExS G σ H H1) (x2 : ExS G σ H1 H2) : Sb (nw (nw Z H H1) H1 H2) (nw Z H H2) := fun a o e n => by
  obtain ⟨e1, e2, e3⟩ := nw_of e
  refine nw_mk e1 e2 ?_
  rcases e3 with h1 | ⟨u, h1, h2⟩ | h1
  · exact .inl h1
  · obtain ⟨f1, _, f3⟩ := nw_of h1
    by_cases hs : Slt G σ a
    · obtain ⟨z, o1, q1, t1, n1⟩ := w.slt hs
      obtain ⟨o2, q2, t2, n2⟩ := x1.sl a o1 hs q1 t1 n1
      rw [nw_none q1 q2 t2 z] at h1
      cases h1
    · have : u = o := by
        have z := x2.ke a u f1 h2 hs
        rw [e1] at z
        exact (Option.some.inj z).symm
      subst this
      exact f3
  · exact .inr (.inr (x1.none w h1))
theorem Go.of (w : Wf K Tb C G Z e σ H) (x : Ex H H') : Go G σ Z H (nw Z H H') H' := ⟨nw_s (w.g.zh.trans x.ke), Sb.refl _, .of x⟩
theorem Go.trans (w : Wf K Tb C G Z e σ H) (g1 : Go G σ Z H Z1 H1) (g2 : Go G σ Z1 H1 Z2 H2) : Go G σ Z H Z2 H2 :=
  ⟨g1.s.trans g2.s, g2.n.trans ((nw_mono g1.n).trans (nw_nwS w g1.x g2.x)), g1.x.trans g2.x⟩
/-- object a alone has changed -/
structure ExA (a : Addr) (H H' : Hp) : Prop where
  ke : ∀ b o, b ≠ a → H b = some o → nt o = true → H' b = some o
  tb : ∀ b ps, H b = some (.tbl ps) → ∃ ps', H' b = some (.tbl ps')
theorem ExA.trans {a : Addr} (x : ExA a H H1) (y : ExA a H1 H2) : ExA a H H2 := ⟨fun b o hb e n => y.ke b o hb (x.ke b o hb e n) n, fun b ps e => by
  obtain ⟨p, e1⟩ := x.tb b ps e
  exact y.tb b p e1⟩
theorem ExA.of {a : Addr} (x : Ex H H') : ExA a H H' := ⟨fun b o _ e n => x.ke b o e n, x.tb⟩
theorem ExA.has {a : Addr} (x : ExA a H H') {o' : HO} (ha : H' a = some o') {b : Addr} (n : H' b = none) : H b = none := by
  cases q : H b with
  | none => rfl
  | some o =>
    by_cases hb : b = a
    · subst hb; rw [ha] at n; cases n
    · cases q2 : nt o with
      | true => rw [x.ke b o hb q q2] at n; cases n
      | false =>
        cases o with
        | tbl ps =>
          obtain ⟨p, e1⟩ := x.tb b ps q
          rw [n] at e1
          cases e1
        | _ => cases q2
theorem nw_sa {S : Hp} {a : Addr} (hs : Sb S H) (x : ExA a H H') (n : S a = none) : Sb S (nw S H H') := fun b o e nn => by
  have hb : b ≠ a := fun z => by subst z; rw [n] at e; cases e
  exact nw_mk (x.ke b o hb (hs b o e nn) nn) nn (.inr (.inl ⟨o, e, nn⟩))
def ioOk (G : List SM) : Bool := (G.drop 1).all fun m => !decide (m = SM.io)
theorem ioOk.zero (h : ioOk G = true) {j : Nat} (hj : G[j]? = some SM.io) : j = 0 := by
  cases j with
  | zero => rfl
  | succ j =>
    unfold ioOk at h
    have h2 : (G.drop 1)[j]? = some SM.io := by rw [List.getElem?_drop, Nat.add_comm]; exact hj
    have h3 := List.all_eq_true.mp h _ (List.mem_of_getElem? h2)
    simp at h3
theorem Wf.mut (io1 : ioOk G = true) (w : Wf K Tb C G Z e σ H) {i : Nat} {a : Addr} {d : Dt} (hi : G[i]? = some .own ∨ G[i]? = some .io) (hs : σ[i]? = some (some (.ref a))) (x : ExA a H H') (tb : LamX.Tabs Tb H') (o : OwnAt K (nw Z H H') H' d a) :
    Wf K Tb C G (nw Z H H') (e.set i d) σ H' := by
  obtain ⟨za, o0, q1, q2, q3⟩ := w.slt (a := a) ⟨i, hi, hs⟩
  obtain ⟨o', p1, p2, p3, _⟩ := o.obj
  have zs : Sb Z (nw Z H H') := nw_sa w.g.zh x za
  have hlt : i < G.length := by
    rcases hi with hi | hi <;> exact (List.getElem?_eq_some_iff.mp hi).1
  have hle : i < e.length := by rw [w.le]; exact hlt
  have h0a : C.H0 a = none ∨ C.io = some a := by
    rcases hi with hi | hi
    · obtain ⟨ov, h1, b, h2, h3, h4, h5⟩ := w.sl i _ hi
      rw [hs] at h1; cases h1; cases h2
      exact .inl h4
    · obtain ⟨ov, h1, b, h2, h3, h4⟩ := w.sl i _ hi
      rw [hs] at h1; cases h1; cases h2
      exact .inr h4
  have na : nw Z H H' a = none := nw_none q1 p1 p2 za
  refine ⟨⟨nw_sub _ _ _, w.g.zz.trans zs, fun b ob e1 e2 => ?_, fun b ob e1 e2 e3 => ?_, fun b ps e1 => ?_, fun b hb => ?_, tb⟩, fun j m hm => ?_, w.ap, by simpa using w.le, w.ls⟩
  · obtain ⟨f1, f2, f3⟩ := nw_of e1
    rcases f3 with h | ⟨u, h, hn⟩ | h
    · exact .inr (.inr h)
    · have hb : b ≠ a := fun z => by subst z; rw [za] at h; cases h
      have : u = ob := by
        have z := x.ke b u hb (w.g.zh b u h hn) hn
        rw [f1] at z
        exact (Option.some.inj z).symm
      subst this
      exact w.g.fr b u h hn
    · exact .inr (.inl (w.g.h0 h))
  · have hb : b ≠ a := fun z => by
      subst z
      rcases h0a with h | h
      · rw [h] at e1; cases e1
      · exact e3 h
    exact x.ke b ob hb (w.g.ke b ob e1 e2 e3) e2
  · obtain ⟨p, e2⟩ := w.g.kt b ps e1
    exact x.tb b p e2
  · obtain ⟨h1, h2, ob, h3, h4, h5⟩ := w.g.ih b hb
    by_cases hba : b = a
    · subst hba
      exact ⟨h1, na, o', p1, p2, p3⟩
    · have h6 := x.ke b ob hba h3 h5
      exact ⟨h1, nw_none h3 h6 h4 h2, ob, h6, h4, h5⟩
  · obtain ⟨ov, h1, h2⟩ := w.sl j m hm
    refine ⟨ov, h1, ?_⟩
    rw [getD_set hle]
    by_cases hij : i = j
    · subst hij
      rw [if_pos rfl]
      rw [hs] at h1
      cases h1
      cases m with
      | dead => exact trivial
      | z =>
        exfalso
        rcases hi with hi | hi <;> rw [hm] at hi <;> cases hi
      | own =>
        obtain ⟨b, h3, h4, h5, h6⟩ := h2
        cases h3
        exact ⟨_, rfl, o, h5, na⟩
      | ptr b => exfalso; rcases hi with hi | hi <;> rw [hm] at hi <;> cases hi
      | io =>
        obtain ⟨b, h3, h4, h5⟩ := h2
        cases h3
        exact ⟨_, rfl, o, h5⟩
    · rw [if_neg hij]
      cases m with
      | dead => exact trivial
      | z =>
        obtain ⟨v, h3, h4⟩ := h2
        exact ⟨v, h3, RV.sb zs _ _ h4⟩
      | own =>
        obtain ⟨b, h3, h4, h5, h6⟩ := h2
        have hb : b ≠ a := fun z => by
          subst z
          subst h3
          rcases hi with hi | hi
          · exact w.ap i j _ hij hi hm hs h1
          · rcases h0a with h | h
            · obtain ⟨ov, k1, b2, k2, k3, k4⟩ := w.sl i _ hi
              rw [hs] at k1; cases k1; cases k2
              exact (w.g.ih _ k4).1 h5
            · exact (w.g.ih _ h).1 h5
        obtain ⟨ob, k1, k2, k3, _⟩ := h4.obj
        have k4 := x.ke b ob hb k1 k3
        exact ⟨b, h3, h4.mono zs (fun o q n => x.ke b o hb q n), h5, nw_none k1 k4 k2 h6⟩
      | ptr b => exact h2
      | io =>
        obtain ⟨b, h3, h4, h5⟩ := h2
        have hb : b ≠ a := fun z => by
          subst z
          subst h3
          rcases hi with hi | hi
          · obtain ⟨ov, k1, b2, k2, k3, k4, k5⟩ := w.sl i _ hi
            rw [hs] at k1; cases k1; cases k2
            exact (w.g.ih _ h5).1 k4
          · exact hij ((ioOk.zero io1 hi).trans (ioOk.zero io1 hm).symm)
        exact ⟨b, h3, h4.mono zs (fun o q n => x.ke b o hb q n), h5⟩
end
end VL
namespace VL
open PySem PySem.Spec PyProof.Rows L2
abbrev RelG (α β : Type) := Hp → α → β → Prop
def At {α β : Type} (K : Kf) (Tb : Tbs) (C : Cn) (G : List SM) (Rl : RelG α β) (Z : Hp) (e : En) (m : En → R (α × En)) (σ : L2.St) (H : Hp) (Q : β → Hp → Prop) : Prop :=
  Wf K Tb C G Z e σ H ∧ match m e with
    | .ok p => ∀ v Z' H', Go G σ Z H Z' H' → Wf K Tb C G Z' p.2 σ H' → Rl Z' p.1 v → Q v H'
    | _ => False
def tGn {α β : Type} (K : Kf) (Tb : Tbs) (C : Cn) (G : List SM) (Rl : RelG α β) (m : En → R (α × En)) : L2.St → Hp → (β → Hp → Prop) → Prop := fun σ H Q => ∃ Z e, At K Tb C G Rl Z e m σ H Q
def mB {α γ : Type} (m : En → R (α × En)) (k : α → En → R (γ × En)) : En → R (γ × En) := fun e => (m e).bind fun p => k p.1 p.2
def mRet {α : Type} (a : α) : En → R (α × En) := fun e => .ok (a, e)
def mO {α : Type} (o : Option α) : En → R (α × En) := fun e => match o with
  | some a => .ok (a, e)
  | none => .bad
def mR {α : Type} (r : R α) : En → R (α × En) := fun e => match r with
  | .ok a => .ok (a, e)
  | _ => .bad
def mQ {α : Type} (m : En → R α) : En → R (α × En) := fun e => (m e).bind fun a => .ok (a, e)
abbrev rD (K : Kf) : RelG Dt V := RV K
abbrev rDs (K : Kf) : RelG (List Dt) (List V) := RVs K
abbrev rBo : RelG Bool Bool := fun _ a b => a = b
abbrev tM (K : Kf) (Tb : Tbs) (C : Cn) (G : List SM) (m : En → R (Dt × En)) : TE := tGn K Tb C G (rD K) m
abbrev tML (K : Kf) (Tb : Tbs) (C : Cn) (G : List SM) (m : En → R (List Dt × En)) : TA := tGn K Tb C G (rDs K) m
abbrev tMB (K : Kf) (Tb : Tbs) (C : Cn) (G : List SM) (m : En → R (Bool × En)) : TT := tGn K Tb C G rBo m
abbrev VM (X : Cx) (Tb : Tbs) (C : Cn) (G : List SM) (m : En → R (Dt × En)) (e : Expr) : Prop := PE X e (tM X.K Tb C G m)
abbrev VML (X : Cx) (Tb : Tbs) (C : Cn) (G : List SM) (m : En → R (List Dt × En)) (es : List Expr) : Prop := PA X es (tML X.K Tb C G m)
abbrev VMB (X : Cx) (Tb : Tbs) (C : Cn) (G : List SM) (m : En → R (Bool × En)) (e : Expr) : Prop := PT X e (tMB X.K Tb C G m)
section
variable {α β γ δ : Type} {K : Kf} {Tb : Tbs} {C : Cn} {G : List SM} {Z H : Hp} {e : En} {σ : L2.St} {Rl : RelG α β} {Rk : RelG γ δ}
theorem At.bind {m : En → R (α × En)} {k : α → En → R (γ × En)} {Q : δ → Hp → Prop} (h : At K Tb C G Rk Z e (mB m k) σ H Q) :
    At K Tb C G Rl Z e m σ H fun v H1 => ∃ a Z1 e1, Rl Z1 a v ∧ Sb Z Z1 ∧ At K Tb C G Rk Z1 e1 (k a) σ H1 Q := by
  obtain ⟨w, hm⟩ := h
  refine ⟨w, ?_⟩
  unfold mB at hm
  revert hm
  cases m e with
  | exc x => exact fun hm => hm
  | bad => exact fun hm => hm
  | ok p =>
    intro hm v Z1 H1 g1 w1 r1
    refine ⟨p.1, Z1, p.2, r1, g1.s, w1, ?_⟩
    revert hm
    dsimp only [R.bind]
    cases k p.1 p.2 with
    | exc x => exact fun hm => hm
    | bad => exact fun hm => hm
    | ok p2 => exact fun hm v2 Z2 H2 g2 w2 r2 => hm v2 Z2 H2 (g1.trans w g2) w2 r2
theorem At.ret {a : α} {Q : β → Hp → Prop} (h : At K Tb C G Rl Z e (mRet a) σ H Q) {v : β} {H' : Hp} (x : Ex H H') (t : LamX.Tabs Tb H') (r : Rl (nw Z H H') a v) : Q v H' :=
  h.2 v _ H' (.of h.1 x) (h.1.ext x t) r
theorem At.o {o : Option α} {Q : β → Hp → Prop} (h : At K Tb C G Rl Z e (mO o) σ H Q) : ∃ a, o = some a ∧ At K Tb C G Rl Z e (mRet a) σ H Q := by
  obtain ⟨w, hm⟩ := h
  cases o with
  | none => exact hm.elim
  | some a => exact ⟨a, rfl, w, hm⟩
theorem At.r {o : R α} {Q : β → Hp → Prop} (h : At K Tb C G Rl Z e (mR o) σ H Q) : ∃ a, o = .ok a ∧ At K Tb C G Rl Z e (mRet a) σ H Q := by
  obtain ⟨w, hm⟩ := h
  cases o with
  | bad => exact hm.elim
  | exc x => exact hm.elim
  | ok a => exact ⟨a, rfl, w, hm⟩
theorem tG_bind {m : En → R (α × En)} {k : α → En → R (γ × En)} {Q : δ → Hp → Prop} (h : tGn K Tb C G Rk (mB m k) σ H Q) :
    tGn K Tb C G Rl m σ H fun v H1 => ∃ a Z1 e1, Rl Z1 a v ∧ At K Tb C G Rk Z1 e1 (k a) σ H1 Q := by
  obtain ⟨Z, en, h⟩ := h
  obtain ⟨w, h2⟩ := At.bind (Rl := Rl) h
  refine ⟨Z, en, w, ?_⟩
  revert h2
  cases m en with
  | exc x => exact fun hm => hm
  | bad => exact fun hm => hm
  | ok p =>
    intro hm v Z1 H1 g1 w1 r1
    obtain ⟨a, Z2, e2, q1, _, q3⟩ := hm v Z1 H1 g1 w1 r1
    exact ⟨a, Z2, e2, q1, q3⟩
theorem At.mono {m : En → R (α × En)} {Q Q' : β → Hp → Prop} (h : At K Tb C G Rl Z e m σ H Q) (i : ∀ v H', Q v H' → Q' v H') : At K Tb C G Rl Z e m σ H Q' := by
  obtain ⟨w, hm⟩ := h
  refine ⟨w, ?_⟩
  revert hm
  cases m e with
  | exc x => exact fun hm => hm
  | bad => exact fun hm => hm
  | ok p => exact fun hm v Z1 H1 g1 w1 r1 => i _ _ (hm v Z1 H1 g1 w1 r1)
theorem tG_mono {m : En → R (α × En)} {Q Q' : β → Hp → Prop} (h : tGn K Tb C G Rl m σ H Q) (i : ∀ v H', Q v H' → Q' v H') : tGn K Tb C G Rl m σ H Q' := by
  obtain ⟨Z, en, h⟩ := h
  exact ⟨Z, en, h.mono i⟩
end
section
variable {X : Cx} {K : Kf} {Tb : Tbs} {C : Cn} {E : XK} {G G1 G' Gl : List SM} {fl fa fb f0 : Fl} {a b c : Expr} {rest : List Expr} {pos : Pos} {ma mb mc : En → R (Dt × En)} {na nb nc : En → R (Bool × En)}
/-! ### quiet ones -/
theorem vm_q {m : En → R Dt} (h : VQ X Tb C E00 G .z m a) : VM X Tb C G (mQ m) a := by
  refine PE.weak h fun σ H Q _ hq => ?_
  obtain ⟨Z, en, w, hm⟩ := hq
  refine ⟨Z, en, w, ?_⟩
  unfold mQ at hm
  revert hm
  cases m en with
  | exc x => exact fun hm => hm.elim
  | bad => exact fun hm => hm
  | ok d => exact fun hm v H' x t o => hm v _ H' (.of w x) (w.ext x t) o
theorem vmb_q {m : En → R Bool} (h : VB X Tb C E00 G m a) : VMB X Tb C G (mQ m) a := by
  refine PT.weak h fun σ H Q _ hq => ?_
  obtain ⟨Z, en, w, hm⟩ := hq
  refine ⟨Z, en, w, ?_⟩
  unfold mQ at hm
  revert hm
  cases m en with
  | exc x => exact fun hm => hm.elim
  | bad => exact fun hm => hm
  | ok d => exact fun hm H' x t => hm d _ H' (.of w x) (w.ext x t) rfl
theorem vml_q {es : List Expr} {m : En → R (List Dt)} (h : VA X Tb C E00 G false m es) : VML X Tb C G (mQ m) es := by
  refine PA.weak h fun σ H Q _ hq => ?_
  obtain ⟨Z, en, w, hm⟩ := hq
  refine ⟨Z, en, w, ?_⟩
  unfold mQ at hm
  revert hm
  cases m en with
  | exc x => exact fun hm => hm.elim
  | bad => exact fun hm => hm
  | ok d => exact fun hm v H' x t o => hm v _ H' (.of w x) (w.ext x t) o
/-! ### two operands -/
def m2 (f : Dt → Dt → Option Dt) (ma mb : En → R (Dt × En)) : En → R (Dt × En) := mB ma fun x => mB mb fun y => mO (f x y)
theorem Out.nt {f0 : Fl} {S H H' : Hp} {d : Dt} {v : V} (h : f0.t? = false) (o : Out K f0 S H H' d v) : RV K (nw S H H') d v := by
  cases f0 with
  | z => exact o
  | own => exact Out.z o
  | t => cases h
theorem two_mw {f : Dt → Dt → Option Dt} {r : R2} {σ : L2.St} {H : Hp} {Q : VK} (hd : OpD X.K f0 f r) (hf : f0.t? = false) (hq : tM X.K Tb C G (m2 f ma mb) σ H Q) :
    tM X.K Tb C G ma σ H fun x H1 => Fit H1 → (fun y H1 Q => Fit H1 → tM X.K Tb C G mb σ H1 (fun v H' => Fit H' → Q v H')) x H1 fun y H2 => r x y H2 Q := by
  refine tG_mono (tG_bind (Rl := rD X.K) hq) fun x H1 ⟨d1, Z1, e1, r1, h1⟩ _ _ => ?_
  have h2 := At.bind (Rl := rD X.K) h1
  refine ⟨Z1, e1, h2.mono fun y H2 ⟨d2, Z2, e2, r2, s2, h3⟩ fit => ?_⟩
  obtain ⟨d, e, h4⟩ := h3.o
  refine hd Z2 H2 d1 d2 x y d Q fit h4.1.g.zh (RV.sb s2 _ _ r1) r2 e fun v H' sm o => ?_
  exact h4.ret (Ex.of_same sm) (h4.1.g.tb.ext sm) (o.nt hf)
theorem vm_op {op : Operator} {r : R2} {f : Dt → Dt → Option Dt} (ho : OpR X (binaryOp op) r) (hd : OpD X.K f0 f r) (ha : VM X Tb C G ma a) (hb : VM X Tb C G mb b) (hf : f0.t? = false := by rfl) : VM X Tb C G (m2 f ma mb) (.BinOp a op b pos) :=
  PE.weak (pe_op ho (PE.fit ha) (PE.fit hb)) fun σ H Q _ hq => fun _ => two_mw hd hf hq
theorem vm_cmp {op : CmpOp} {r : R2} {f : Dt → Dt → Option Dt} (ho : OpR X (compareOp op) r) (hd : OpD X.K f0 f r) (ha : VM X Tb C G ma a) (hb : VM X Tb C G mb b) (hf : f0.t? = false := by rfl) (hm : behindInMarks op b = false := by rfl) : VM X Tb C G (m2 f ma mb) (.Compare a [op] [b] pos) :=
  PE.weak (pe_cmpR ho (PE.fit ha) (PE.fit hb) hm) fun σ H Q _ hq => fun _ => two_mw hd hf hq
def mT (m : En → R (Dt × En)) : En → R (Bool × En) := mB m fun d => mR (bB d)
theorem tMB_of {m : En → R (Dt × En)} {σ : L2.St} {H : Hp} {Q : Bool → Hp → Prop} (hq : tMB K Tb C G (mT m) σ H Q) : tM K Tb C G m σ H fun x H1 => ∃ k, x = .bl k ∧ Q k H1 := by
  refine tG_mono (tG_bind (Rl := rD K) hq) fun x H1 ⟨d1, Z1, e1, r1, h1⟩ => ?_
  obtain ⟨k, hk, h2⟩ := h1.r
  have ed := bB_ok hk
  subst ed
  cases r1
  exact ⟨k, rfl, h2.ret (Ex.refl _) h2.1.g.tb rfl⟩
theorem tM_of {m : En → R (Dt × En)} {σ : L2.St} {H : Hp} {Q : Bool → Hp → Prop} (hq : tMB K Tb C G (mT m) σ H Q) : tM K Tb C G m σ H fun x H1 => ∃ k, x = .bl k ∧ Q k H1 := tMB_of hq
theorem vmb_val {m : En → R (Dt × En)} (h : VM X Tb C G m a) (he : ∀ whole, isTrue a X.env whole = (do let v ← whole; standAt a.pos; holding [v] (truthy v)) := by intro _; rfl) : VMB X Tb C G (mT m) a :=
  PT.weak (pt_val h he) fun σ H Q _ hq => tMB_of hq
theorem vmb_cmp {op : CmpOp} {r : R2} {f : Dt → Dt → Option Dt} (ho : OpR X (compareOp op) r) (hd : OpD X.K f0 f r) (ha : VM X Tb C G ma a) (hb : VM X Tb C G mb b) (hf : f0.t? = false := by rfl) (hm : behindInMarks op b = false := by rfl) : VMB X Tb C G (mT (m2 f ma mb)) (.Compare a [op] [b] pos) :=
  PT.weak (pt_cmpR ho (PE.fit ha) (PE.fit hb) hm) fun σ H Q _ hq => fun _ => two_mw hd hf (tMB_of hq)
theorem vm_ix (ha : VM X Tb C G ma a) (hb : VM X Tb C G mb b) (hs : PlainIx b := by intro _ _; rfl) : VM X Tb C G (m2 ixD ma mb) (.Subscript a b pos) :=
  PE.weak (pe_ix ix_seq (PE.fit ha) (PE.fit hb) hs) fun σ H Q _ hq => fun _ => two_mw (f0 := .z) ixD_ok rfl hq
/-! ### tests -/
def mAnd (na nb : En → R (Bool × En)) : En → R (Bool × En) := mB na fun k => if k = true then nb else mRet false
def mOr (na nb : En → R (Bool × En)) : En → R (Bool × En) := mB na fun k => if k = true then mRet true else nb
def mNot (na : En → R (Bool × En)) : En → R (Bool × En) := mB na fun k => mRet (!k)
abbrev VMW (X : Cx) (Tb : Tbs) (C : Cn) (G : List SM) (m : En → R (Bool × En)) (e : Expr) : Prop := PW X e (tMB X.K Tb C G m)
theorem vmw_and1 (h : VMB X Tb C G na a) : VMW X Tb C G na (.BoolOp .And [a] pos) := pw_and1 h
theorem vmw_or1 (h : VMB X Tb C G na a) : VMW X Tb C G na (.BoolOp .Or [a] pos) := pw_or1 h
theorem vmw_and (h : VMB X Tb C G na a) (h2 : VMW X Tb C G nb (.BoolOp .And (b :: rest) pos)) : VMW X Tb C G (mAnd na nb) (.BoolOp .And (a :: b :: rest) pos) := PW.weak (pw_and h h2) fun σ H Q _ hq => by
  refine tG_mono (tG_bind (Rl := rBo) hq) fun x H1 ⟨d1, Z1, e1, r1, h1⟩ => ?_
  cases r1
  cases x with
  | true => exact ⟨Z1, e1, h1⟩
  | false => exact h1.ret (Ex.refl _) h1.1.g.tb rfl
theorem vmw_or (h : VMB X Tb C G na a) (h2 : VMW X Tb C G nb (.BoolOp .Or (b :: rest) pos)) : VMW X Tb C G (mOr na nb) (.BoolOp .Or (a :: b :: rest) pos) := PW.weak (pw_or h h2) fun σ H Q _ hq => by
  refine tG_mono (tG_bind (Rl := rBo) hq) fun x H1 ⟨d1, Z1, e1, r1, h1⟩ => ?_
  cases r1
  cases x with
  | false => exact ⟨Z1, e1, h1⟩
  | true => exact h1.ret (Ex.refl _) h1.1.g.tb rfl
theorem vmb_w {e : Expr} (h : VMW X Tb C G na e) : VMB X Tb C G na e := PW.pt h
theorem vmb_not (h : VMB X Tb C G na a) : VMB X Tb C G (mNot na) (.UnaryOp .Not a pos) := PT.weak (pt_not h) fun σ H Q _ hq => by
  refine tG_mono (tG_bind (Rl := rBo) hq) fun x H1 ⟨d1, Z1, e1, r1, h1⟩ => ?_
  cases r1
  exact h1.ret (Ex.refl _) h1.1.g.tb rfl
/-! and, or, not as values -/
def mqAnd (ma mb : En → R (Dt × En)) : En → R (Dt × En) := mB ma fun x => mB (mR (bB x)) fun k => if k = true then mb else mRet (.bool false)
def mqOr (ma mb : En → R (Dt × En)) : En → R (Dt × En) := mB ma fun x => mB (mR (bB x)) fun k => if k = true then mRet (.bool true) else mb
def mqNot (ma : En → R (Dt × En)) : En → R (Dt × En) := mB ma fun x => mB (mR (bB x)) fun k => mRet (.bool (!k))
theorem At.bR {α γ δ : Type} {Rk : RelG γ δ} {Z H : Hp} {e : En} {σ : L2.St} {o : R α} {k : α → En → R (γ × En)} {Q : δ → Hp → Prop} (h : At K Tb C G Rk Z e (mB (mR o) k) σ H Q) : ∃ a, o = .ok a ∧ At K Tb C G Rk Z e (k a) σ H Q := by
  obtain ⟨w, hm⟩ := h
  cases o with
  | bad => exact hm.elim
  | exc x => exact hm.elim
  | ok a => exact ⟨a, rfl, w, hm⟩
theorem vm_one {op : BoolOp} (h : VM X Tb C G ma a) : VM X Tb C G ma (.BoolOp op [a] pos) := pe_one h
theorem vm_and (h : VM X Tb C G ma a) (h2 : VM X Tb C G mb (.BoolOp .And (b :: rest) pos)) : VM X Tb C G (mqAnd ma mb) (.BoolOp .And (a :: b :: rest) pos) := PE.weak (pe_and h h2) fun σ H Q _ hq => by
  refine tG_mono (tG_bind (Rl := rD X.K) hq) fun x H1 ⟨d1, Z1, e1, r1, h1⟩ => ?_
  obtain ⟨k, hk, h2⟩ := h1.bR
  have ed := bB_ok hk
  subst ed
  cases r1
  refine ⟨k, rfl, ?_⟩
  cases k with
  | true => exact ⟨Z1, e1, h2⟩
  | false => exact h2.ret (Ex.refl _) h2.1.g.tb rfl
theorem vm_or (h : VM X Tb C G ma a) (h2 : VM X Tb C G mb (.BoolOp .Or (b :: rest) pos)) : VM X Tb C G (mqOr ma mb) (.BoolOp .Or (a :: b :: rest) pos) := PE.weak (pe_or h h2) fun σ H Q _ hq => by
  refine tG_mono (tG_bind (Rl := rD X.K) hq) fun x H1 ⟨d1, Z1, e1, r1, h1⟩ => ?_
  obtain ⟨k, hk, h2⟩ := h1.bR
  have ed := bB_ok hk
  subst ed
  cases r1
  refine ⟨k, rfl, ?_⟩
  cases k with
  | false => exact ⟨Z1, e1, h2⟩
  | true => exact h2.ret (Ex.refl _) h2.1.g.tb rfl
theorem vm_not (h : VM X Tb C G ma a) : VM X Tb C G (mqNot ma) (.UnaryOp .Not a pos) := PE.weak (pe_not h) fun σ H Q _ hq => by
  refine tG_mono (tG_bind (Rl := rD X.K) hq) fun x H1 ⟨d1, Z1, e1, r1, h1⟩ => ?_
  obtain ⟨k, hk, h2⟩ := h1.bR
  have ed := bB_ok hk
  subst ed
  cases r1
  exact ⟨k, rfl, h2.ret (Ex.refl _) h2.1.g.tb rfl⟩
def mIf (nc : En → R (Bool × En)) (ma mb : En → R (Dt × En)) : En → R (Dt × En) := mB nc fun k => if k = true then ma else mb
theorem vm_if (hc : VMB X Tb C G nc c) (ha : VM X Tb C G ma a) (hb : VM X Tb C G mb b) : VM X Tb C G (mIf nc ma mb) (.IfExp c a b pos) := PE.weak (pe_ifExp hc ha hb) fun σ H Q _ hq => by
  refine tG_mono (tG_bind (Rl := rBo) hq) fun x H1 ⟨d1, Z1, e1, r1, h1⟩ => ?_
  cases r1
  cases x with
  | true => exact ⟨Z1, e1, h1⟩
  | false => exact ⟨Z1, e1, h1⟩
/-! ### argument lists -/
def mnil : En → R (List Dt × En) := mRet []
def mcons (m : En → R (Dt × En)) (ml : En → R (List Dt × En)) : En → R (List Dt × En) := mB m fun x => mB ml fun xs => mRet (x :: xs)
theorem vml_nil : VML X Tb C G mnil [] := PA.weak pa_nil fun σ H Q _ hq => by
  obtain ⟨Z, e, h⟩ := hq
  exact h.ret (Ex.refl _) h.1.g.tb rfl
theorem vml_cons {e : Expr} {es : List Expr} {m : En → R (Dt × En)} {ml : En → R (List Dt × En)} (ha : VM X Tb C G m e) (hr : VML X Tb C G ml es) (hs : starEach (e :: es) X.env = (false, eval e X.env) :: starEach es X.env := by rfl) :
    VML X Tb C G (mcons m ml) (e :: es) := PA.weak (pa_cons ha hr hs) fun σ H Q _ hq => by
  refine tG_mono (tG_bind (Rl := rD X.K) hq) fun x H1 ⟨d1, Z1, e1, r1, h1⟩ => ?_
  have h2 := At.bind (Rl := rDs X.K) h1
  refine ⟨Z1, e1, h2.mono fun vs H2 ⟨ds, Z2, e2, r2, s2, h3⟩ => ?_⟩
  exact h3.ret (Ex.refl _) h3.1.g.tb ⟨x, vs, rfl, RV.sb ((s2.trans (nw_s h3.1.g.zh))) _ _ r1, RVs.sb (nw_s h3.1.g.zh) _ _ r2⟩
def mtup (ml : En → R (List Dt × En)) : En → R (Dt × En) := mB ml fun ds => mRet (.tuple ds)
def mlst (ml : En → R (List Dt × En)) : En → R (Dt × En) := mB ml fun ds => mRet (.list ds)
theorem vm_tup {es : List Expr} {ml : En → R (List Dt × En)} {k : Nat} (h : VML X Tb C G ml es) (hl : ∀ e p, ml e = .ok p → p.1.length ≤ 1000) : VM X Tb C G (mtup ml) (.Tuple es k pos) := PE.weak (pe_tup h) fun σ H Q _ hq => by
  obtain ⟨Z, en, w, hm⟩ := hq
  refine ⟨Z, en, w, ?_⟩
  unfold mtup mB at hm
  revert hm
  cases hds : ml en with
  | exc x => exact fun hm => hm
  | bad => exact fun hm => hm
  | ok p =>
    intro hm vs Z1 H1 g1 w1 o1
    have hlen : vs.length ≤ sizeLine := by
      rw [RVs.len o1]
      exact Nat.le_trans (hl en p hds) (by decide)
    refine ⟨hlen, fun q nq => ?_⟩
    have x2 := Ex.of_same (same_upd (o := .tup vs) nq)
    exact hm _ _ _ (g1.trans w (.of w1 x2)) (w1.ext x2 (w1.g.tb.ext (same_upd nq))) (out_tup w1.g.zh nq o1)
theorem vm_lst {es : List Expr} {ml : En → R (List Dt × En)} (h : VML X Tb C G ml es) (hl : ∀ e p, ml e = .ok p → p.1.length ≤ 1000) : VM X Tb C G (mlst ml) (.List es pos) := PE.weak (pe_lst h) fun σ H Q _ hq => by
  obtain ⟨Z, en, w, hm⟩ := hq
  refine ⟨Z, en, w, ?_⟩
  unfold mlst mB at hm
  revert hm
  cases hds : ml en with
  | exc x => exact fun hm => hm
  | bad => exact fun hm => hm
  | ok p =>
    intro hm vs Z1 H1 g1 w1 o1
    have hlen : vs.length ≤ sizeLine := by
      rw [RVs.len o1]
      exact Nat.le_trans (hl en p hds) (by decide)
    refine ⟨hlen, fun q nq => ?_⟩
    have x2 := Ex.of_same (same_upd (o := .lst vs) nq)
    exact hm _ _ _ (g1.trans w (.of w1 x2)) (w1.ext x2 (w1.g.tb.ext (same_upd nq))) (Out.z (out_lst w1.g.zh nq o1))
/-! ### calls -/
def mC (f : List Dt → Option Dt) (ml : En → R (List Dt × En)) : En → R (Dt × En) := mB ml fun ds => mO (f ds)
theorem callm_w {f : List Dt → Option Dt} {ml : En → R (List Dt × En)} {r : List V → Hp → VK → Prop} {σ : L2.St} {H : Hp} {Q : VK} (hd : CallD X.K f0 f r) (hf : f0.t? = false) (hq : tM X.K Tb C G (mC f ml) σ H Q) :
    tCB r (fun σ H Q => Fit H → tML X.K Tb C G ml σ H (fun v H' => Fit H' → Q v H')) σ H Q := by
  intro _
  refine tG_mono (tG_bind (Rl := rDs X.K) hq) fun vs H1 ⟨ds, Z1, e1, r1, h1⟩ fit => ?_
  obtain ⟨d, e, h2⟩ := h1.o
  refine hd Z1 H1 ds vs d Q fit h2.1.g.zh r1 e fun v H' sm o => ?_
  exact h2.ret (Ex.of_same sm) (h2.1.g.tb.ext sm) (o.nt hf)
theorem vm_callB {x : Str} {id : String} {p : Pos} {e : Expr} {es : List Expr} {f : List Dt → Option Dt} {ml : En → R (List Dt × En)} {r : List V → Hp → VK → Prop} (hc : CallR X (.builtin id) r) (hd : CallD X.K f0 f r) (hg : L2.Gl X x) (hm : X.mg x = none) (hv : bootBuiltins x = some (.builtin id)) (ha : VML X Tb C G ml (e :: es))
    (hf : f0.t? = false := by rfl) (hn : x ≠ "__name__" := by decide) (hdb : (x == ("__debug__" : Str)) = false := by decide)
    (he : starEach (e :: es) X.env = (false, eval e X.env) :: starEach es X.env := by rfl) (hpl : (backTo pos (starEach es X.env)).any (·.1) = false := by rfl) : VM X Tb C G (mC f ml) (.Call (.Name x p) (e :: es) [] pos) :=
  PE.weak (pe_callB hc hg hm hv (PA.fit ha) hn hdb he hpl) fun σ H Q _ hq => callm_w hd hf hq
theorem vm_callT {x : Str} {T : String} {p : Pos} {e : Expr} {es : List Expr} {f : List Dt → Option Dt} {ml : En → R (List Dt × En)} {r : List V → Hp → VK → Prop} (hc : CallR X (.type T) r) (hd : CallD X.K f0 f r) (hg : L2.Gl X x) (hm : X.mg x = none) (hv : bootBuiltins x = some (.type T)) (ha : VML X Tb C G ml (e :: es))
    (hf : f0.t? = false := by rfl) (hn : x ≠ "__name__" := by decide) (hdb : (x == ("__debug__" : Str)) = false := by decide)
    (he : starEach (e :: es) X.env = (false, eval e X.env) :: starEach es X.env := by rfl) (hpl : (backTo pos (starEach es X.env)).any (·.1) = false := by rfl) : VM X Tb C G (mC f ml) (.Call (.Name x p) (e :: es) [] pos) :=
  PE.weak (pe_callTy hc hg hm hv (PA.fit ha) hn hdb he hpl) fun σ H Q _ hq => callm_w hd hf hq
def m1 (f : Dt → Option Dt) (m : En → R (Dt × En)) : En → R (Dt × En) := mB m fun d => mO (f d)
theorem vm_tuple {p : Pos} (hg : L2.Gl X "tuple") (hm : X.mg "tuple" = none) (ha : VM X Tb C G ma a) (na : starEach [a] X.env = (false, eval a X.env) :: starEach [] X.env := by rfl) :
    VM X Tb C G (m1 tupD ma) (.Call (.Name "tuple" p) [a] [] pos) :=
  PE.weak (pe_tupleOf hg hm ha na) fun σ H Q _ hq => by
    refine tG_mono (tG_bind (Rl := rD X.K) hq) fun x H1 ⟨d1, Z1, e1, r1, h1⟩ => ?_
    obtain ⟨d, e, h2⟩ := h1.o
    unfold tupD at e
    split at e
    · cases e
      obtain ⟨p, xs, rfl, q1, q2⟩ := r1
      exact .inl ⟨p, xs, rfl, .inl (.inl (h2.1.g.zh _ _ q1 rfl)), fun l nl => h2.ret (Ex.of_same (same_upd nl)) (h2.1.g.tb.ext (same_upd nl)) (out_tup h2.1.g.zh nl q2)⟩
    · cases e
      have r2 := r1
      obtain ⟨p, xs, rfl, q1, q2⟩ := r1
      exact .inr ⟨p, xs, rfl, SqT.sb h2.1.g.zh q1, h2.ret (Ex.refl _) h2.1.g.tb (RV.sb (nw_s h2.1.g.zh) _ _ r2)⟩
    · cases e
end
end VL
namespace VL
open PySem PySem.Spec PyProof.Rows L2
/-! ### promises of defs, called where Gd holds of the surroundings -/
structure GdOk (Gd : Around → Prop) : Prop where
  deeper : ∀ (A : Around) (env : Env), Gd A → Gd (A.deeper env)
def GdT : Around → Prop := fun _ => True
def GdR : Around → Prop := fun A => A.guards = some []
theorem gdT : GdOk GdT := ⟨fun _ _ _ => trivial⟩
theorem gdR : GdOk GdR := ⟨fun _ _ h => h⟩
/-- the code of a def, found in the fragment -/
def CdOk (K : Kf) (f : Addr) (qual : Str) (cdv : Value) : Prop := PySem.W.codeIn K cdv qual = true ∧ ∃ (oc : Value) (od : Option Addr) (osl : Array (Option Value)) (fd : FuncData), K.lookup f = some ⟨oc, od, .func fd, osl⟩ ∧ fd.code = cdv
structure FnP (Gd : Around → Prop) (P : Program) (w : World) (K : Kf) (mg : Str → Option Value) (base : Heap) (k : Nat) (f : Addr) (fd : FuncData) (ps : List Str) (sp : Sp) : Prop where
  len : ∀ vs H Q E, sp vs H Q E → vs.length = ps.length
  run : ∀ (A : Around) (outer : List Env) (s : Shared) (H : Hp) (args : Args) (us : List Value) (vs : List V) (Q : VK) (E : XK), Room k A → Gd A → Env0 P w K mg base A outer s H → BindsTo s fd args (ps.zip us) → Vals vs us → sp vs H Q E →
    codeAny (model P w) A (.call (.ref f) args) (CR (L2.CX P w) outer P w H s Q E) s
section
variable {P : Program} {w : World} {K : Kf} {mg : Str → Option Value} {base : Heap} {Gd : Around → Prop}
theorem FnP.mono {j k : Nat} {f : Addr} {fd : FuncData} {ps : List Str} {sp : Sp} (F : FnP Gd P w K mg base j f fd ps sp) (h : j ≤ k) : FnP Gd P w K mg base k f fd ps sp :=
  ⟨F.len, fun A outer s H args us vs Q E hr => F.run A outer s H args us vs Q E (hr.mono h)⟩
theorem FnP.weak {k : Nat} {f : Addr} {fd : FuncData} {ps : List Str} {sp : Sp} (F : FnP GdT P w K mg base k f fd ps sp) : FnP Gd P w K mg base k f fd ps sp :=
  ⟨F.len, fun A outer s H args us vs Q E hr _ => F.run A outer s H args us vs Q E hr trivial⟩
theorem FnP.ok {k : Nat} {f : Addr} {fd : FuncData} {ps : List Str} {sp : Sp} (F : FnP GdT P w K mg base k f fd ps sp) : FnOk P w K mg base (L2.CX P w) k f fd ps sp :=
  ⟨F.len, fun A outer s H args us vs Q E hr => F.run A outer s H args us vs Q E hr trivial⟩
theorem fnP_of {x qual : Str} {params : Arguments} {body : List Stmt} {scope : Scope} {dvs : List V} {kws : List (Str × V)} {f : Addr} {fd : FuncData} {N ps : List Str} {k : Nat} {sp : Sp} (gd : GdOk Gd) (F : FunD K x qual params body scope dvs kws f fd) (S : FnScope N ps scope)
    (len : ∀ vs H Q E, sp vs H Q E → vs.length = ps.length)
    (hbody : ∀ (cdv : Value) (A : Around) (outer : List Env) (s : Shared) (H : Hp) (vs : List V) (Q : VK) (E : XK), CdOk K f qual cdv → Room k (A.deeper (envOfC qual scope s.heap.objs.size f cdv)) → Gd (A.deeper (envOfC qual scope s.heap.objs.size f cdv)) → sp vs H Q E →
      ∃ t, PSs (cxOf (L2.CX P w) P w K mg base N qual scope f cdv A outer s H E) body t ∧ t { nx := fun _ H' => Q .non H', rt := Q } (L2.start N vs) H) : FnP Gd P w K mg base (k + 1) f fd ps sp := by
  obtain ⟨oc, od, dV, kV, doc, pm, an, cdv, ct, osl, rfl, lk, hcd, _, _⟩ := F.ex
  refine ⟨len, fun A outer s H args us vs Q E hr hg e0 hb r hsp => ?_⟩
  have hl := len _ _ _ _ hsp
  have KX : K.In s.heap := e0.mod.kin.keeps fun b o e => (e0.bs b o e).1
  have lim : s.heap.NoLimit := e0.mod.nolimit.keeps fun b o e => (e0.bs b o e).1
  have hkind : ∀ y ∈ ps.zip us, scope.names.lookup y.1 = some .local ∨ (scope.names.lookup y.1 = some .cell ∧ ((cellsFrom (s.heap.objs.size + 1) scope.names []).lookup y.1).isSome = true) := fun ⟨n, v⟩ hy => by
    rcases S.par n (List.of_mem_zip hy).1 with q | q
    · exact .inl q
    · exact .inr ⟨q, PySem.W.cellsFrom_some _ _ _ (.inl q)⟩
  refine codeAny_call_function hr.depth (KX _ _ lk) rfl S.co S.gen rfl (PySem.W.codeRec_of KX hcd) (hb _ _ _ _ ?_)
  refine wpAny_newFunctionEnv_cells S.kind hkind fun env he s1 x => ?_
  subst he
  refine ⟨lim.keeps x.toInCall.keep, codeAny_func ?_⟩
  obtain ⟨t, ht, hq⟩ := hbody cdv A outer s H vs Q E ⟨hcd, oc, od, osl, _, lk, rfl⟩ (hr.deeper _) (gd.deeper _ _ hg) hsp
  have I : Inv (cxOf (L2.CX P w) P w K mg base N qual scope f cdv A outer s H E) [] (L2.start N vs) H s1 := inv_start S hr.hd e0 hl r x
  refine wpAny_mono (ht.run [] s1 (L2.start N vs) H _ I hq) (fun fl s' hs => ?_) fun e s' hs => hs
  have fin : ∀ {σ' : L2.St} {H' : Hp} {v : V} {u : Value}, Inv (cxOf (L2.CX P w) P w K mg base N qual scope f cdv A outer s H E) [] σ' H' s' → RelV v u → Q v H' → CE outer P w H s Q u s' :=
    fun {σ' H' v u} J rv q => ⟨v, H', J.os, J.bare, J.base, J.hok, rv, q⟩
  cases fl with
  | ret u =>
    obtain ⟨v, σ', H', J, rv, q⟩ := hs
    exact fin J rv q
  | next =>
    obtain ⟨σ', H', J, q⟩ := hs
    exact fin (v := V.non) (u := Value.none) J rfl q
  | brk =>
    obtain ⟨_, _, _, q⟩ := hs
    exact False.elim q
  | cont =>
    obtain ⟨_, _, _, q⟩ := hs
    exact False.elim q
end
section
variable {X : Cx} {Gd : Around → Prop} {k : Nat} {f : Addr} {fd : FuncData} {ps : List Str} {sp : Sp} {E : XK} {x : Str} {p pos : Pos} {e : Expr} {es : List Expr} {t : TA}
theorem run_fnP {pins : List (Addr × Obj)} {σ : L2.St} {H : Hp} {s : Shared} {Q : VK} {us : List Value} {vs : List V} (F : FnP Gd X.prog X.w X.K X.mg X.base k f fd ps sp) (hr : Room k X.A) (hgd : Gd X.A) (hb : Binds X.K fd ps []) (hx : Passes (L2.CX X.prog X.w) X E)
    (I : Inv X pins σ H s) (r : Vals vs us) (h : sp vs H Q E) : wpAny (model X.prog X.w) X.A (call (.ref f) us) (EP X pins σ Q) X.xe s := by
  have hl : (us ++ []).length = ps.length := by rw [List.append_nil, ← r.length]; exact F.len _ _ _ _ h
  have hb2 := hb s us I.kIn hl
  rw [List.append_nil] at hb2
  refine wpAny_call (codeAny_mono (F.run X.A X.stack s H ⟨us, []⟩ us vs Q E hr hgd I.env0 hb2 r h) fun r s' hq => ?_)
  cases r with
  | error e => exact hx pins σ H s e s' I hq
  | ok fl =>
    cases fl with
    | ret u => exact I.after hq
    | next => exact False.elim hq
    | brk => exact False.elim hq
    | cont => exact False.elim hq
def tCallP (sp : Sp) (E : XK) (t : TA) : TE := fun σ H Q => t σ H fun vs H1 => sp vs H1 Q E
theorem pe_callP (F : FnP Gd X.prog X.w X.K X.mg X.base k f fd ps sp) (hr : Room k X.A) (hgd : Gd X.A) (hg : L2.Gl X x) (hm : X.mg x = some (.ref f)) (hk : PySem.W.keepIn X.K (.ref f) = true) (hb : Binds X.K fd ps []) (hx : Passes (L2.CX X.prog X.w) X E)
    (ha : PA X (e :: es) t) (hdb : (x == ("__debug__" : Str)) = false := by decide) (he : starEach (e :: es) X.env = (false, eval e X.env) :: starEach es X.env := by rfl) (hpl : (backTo pos (starEach es X.env)).any (·.1) = false := by rfl) :
    PE X (.Call (.Name x p) (e :: es) [] pos) (tCallP sp E t) := by
  refine ⟨fun pins s σ H Q I h => ?_⟩
  refine wpAny_Call_Name_kw (ld_glob I hg hm ?_ hdb)
  refine PySem.W.callWith_K (h₀ := X.base) I.ok.mod.kin hk (thn (ha.run pos pins s σ H _ I h) fun us s1 ⟨vs, H1, I1, r, q⟩ => ⟨I1.kIn, ?_⟩) he hpl
  exact run_fnP F hr hgd hb hx I1 r q
theorem passes0 : Passes (L2.CX X.prog X.w) X E00 := passes_call LamX.takes0 fun _ _ _ _ h => h
end
section
variable {X : Cx} {Gd : Around → Prop} {Tb : Tbs} {C : Cn} {E : XK} {G : List SM} {fl fa fb f0 : Fl} {pos : Pos}
/-- a call of a def that changes nothing -/
theorem vq_callP {k : Nat} {f : Addr} {fd : FuncData} {ps : List Str} {x : Str} {p : Pos} {e : Expr} {es : List Expr} {t : Bool} {n : Nat} {m : List Dt → R Dt} {ml : En → R (List Dt)} (F : FnP Gd X.prog X.w X.K X.mg X.base k f fd ps (spF X.K Tb f0 n m)) (hr : Room k X.A) (hgd : Gd X.A) (hg : L2.Gl X x) (hm : X.mg x = some (.ref f)) (hk : PySem.W.keepIn X.K (.ref f) = true)
    (hb : Binds X.K fd ps []) (hx : Passes (L2.CX X.prog X.w) X E) (ha : VA X Tb C E G t ml (e :: es)) (hl : ∀ en ds, ml en = .ok ds → ds.length = n) (hdb : (x == ("__debug__" : Str)) = false := by decide)
    (he : starEach (e :: es) X.env = (false, eval e X.env) :: starEach es X.env := by rfl) (hpl : (backTo pos (starEach es X.env)).any (·.1) = false := by rfl) : VQ X Tb C E G (Fl.on t f0) (qF m ml) (.Call (.Name x p) (e :: es) [] pos) :=
  PE.weak (pe_callP F hr hgd hg hm hk hb hx ha hdb he hpl) fun σ H Q _ hq => by
    obtain ⟨Z, en, w, hm⟩ := hq
    refine ⟨Z, en, w, ?_⟩
    unfold qF at hm
    revert hm
    cases hds : ml en with
    | exc x => exact fun hm => hm
    | bad => exact fun hm => hm
    | ok ds =>
      dsimp only [R.bind]
      intro hm vs H1 x1 t1 o1
      refine ⟨ds, Sel t Z H H1, hl en ds hds, o1, Sel.sub _ _ _ _, t1, ?_⟩
      revert hm
      cases m ds with
      | exc x => exact fun hm => EXC.of hm x1
      | bad => exact fun hm => hm
      | ok d => exact fun hm v H' x2 t2 o => hm v H' (x1.trans x2) t2 (o.comp x1 x2)
/-- the same, the arguments may change owned things; no exception -/
def mF (f : List Dt → R Dt) (ml : En → R (List Dt × En)) : En → R (Dt × En) := mB ml fun ds => mR (f ds)
theorem vm_callP {k : Nat} {f : Addr} {fd : FuncData} {ps : List Str} {x : Str} {p : Pos} {e : Expr} {es : List Expr} {n : Nat} {m : List Dt → R Dt} {ml : En → R (List Dt × En)} (F : FnP Gd X.prog X.w X.K X.mg X.base k f fd ps (spF X.K Tb f0 n m)) (hr : Room k X.A) (hgd : Gd X.A) (hg : L2.Gl X x) (hm : X.mg x = some (.ref f)) (hk : PySem.W.keepIn X.K (.ref f) = true)
    (hb : Binds X.K fd ps []) (ha : VML X Tb C G ml (e :: es)) (hl : ∀ en p, ml en = .ok p → p.1.length = n) (hf : f0.t? = false := by rfl) (hdb : (x == ("__debug__" : Str)) = false := by decide)
    (he : starEach (e :: es) X.env = (false, eval e X.env) :: starEach es X.env := by rfl) (hpl : (backTo pos (starEach es X.env)).any (·.1) = false := by rfl) : VM X Tb C G (mF m ml) (.Call (.Name x p) (e :: es) [] pos) :=
  PE.weak (pe_callP (E := E00) F hr hgd hg hm hk hb passes0 ha hdb he hpl) fun σ H Q _ hq => by
    obtain ⟨Z, en, w, hm⟩ := hq
    refine ⟨Z, en, w, ?_⟩
    unfold mF mB at hm
    revert hm
    cases hds : ml en with
    | exc x => exact fun hm => hm
    | bad => exact fun hm => hm
    | ok p =>
      dsimp only [R.bind]
      intro hm vs Z1 H1 g1 w1 o1
      refine ⟨p.1, Z1, hl en p hds, o1, w1.g.zh, w1.g.tb, ?_⟩
      unfold mR at hm
      revert hm
      cases m p.1 with
      | exc x => exact fun hm => hm.elim
      | bad => exact fun hm => hm
      | ok d => exact fun hm v H' x2 t2 o => hm v _ H' (g1.trans w (.of w1 x2)) (w1.ext x2 t2) (o.nt hf)
/-! ### defs that may change their first argument -/
def spM (K : Kf) (Tb : Tbs) (n : Nat) (m : Dt → List Dt → R (Dt × Dt)) : Sp := fun vs H Q E => ∃ (a : Addr) (ws : List V) (d0 : Dt) (ds : List Dt) (S : Hp), vs = .ref a :: ws ∧ ds.length = n ∧ OwnAt K S H d0 a ∧ S a = none ∧ RVs K S ds ws ∧ Sb S H ∧ LamX.Tabs Tb H ∧ match m d0 ds with
  | .ok p => ∀ v H', ExA a H H' → LamX.Tabs Tb H' → OwnAt K (nw S H H') H' p.2 a → RV K (nw S H H') p.1 v → Q v H'
  | _ => False
def mIo (i : Nat) (m : Dt → List Dt → R (Dt × Dt)) (ml : En → R (List Dt × En)) : En → R (Dt × En) := fun e => (ml e).bind fun p => (m (p.2.getD i .none) p.1).bind fun q => .ok (q.1, p.2.set i q.2)
theorem vm_callIo (i : Nat) {k : Nat} {f : Addr} {fd : FuncData} {ps : List Str} {x y : Str} {p p2 : Pos} {es : List Expr} {n : Nat} {m : Dt → List Dt → R (Dt × Dt)} {ml : En → R (List Dt × En)} (F : FnP Gd X.prog X.w X.K X.mg X.base k f fd ps (spM X.K Tb n m)) (hr : Room k X.A) (hgd : Gd X.A) (hg : L2.Gl X x) (hm : X.mg x = some (.ref f)) (hk : PySem.W.keepIn X.K (.ref f) = true)
    (hb : Binds X.K fd ps []) (ha : VML X Tb C G ml es) (hl : ∀ en p, ml en = .ok p → p.1.length = n)
    (hi : (G[i]? = some .own ∨ G[i]? = some .io) := by first | exact Or.inl rfl | exact Or.inr rfl) (io1 : ioOk G = true := by rfl) (hN : X.N[i]? = some y := by rfl) (hv : Vis X.env.scope y := by first | exact Or.inl rfl | exact Or.inr (Or.inl rfl) | exact Or.inr (Or.inr rfl)) (hd : (y == ("__debug__" : Str)) = false := by decide)
    (hcd : (y == ("__classdict__" : Str)) = false := by decide) (hdb : (x == ("__debug__" : Str)) = false := by decide)
    (he : starEach (.Name y p2 :: es) X.env = (false, eval (.Name y p2) X.env) :: starEach es X.env := by rfl) (hpl : (backTo pos (starEach es X.env)).any (·.1) = false := by rfl) : VM X Tb C G (mIo i m ml) (.Call (.Name x p) (.Name y p2 :: es) [] pos) :=
  PE.weak (pe_callP (E := E00) F hr hgd hg hm hk hb passes0 (pa_cons (pe_var hN hv hd hcd) ha he) hdb he hpl) fun σ H Q _ hq => by
    obtain ⟨Z, en, w, hm⟩ := hq
    have key : ∀ {Z1 : Hp} {e1 : En} {H1 : Hp}, Wf X.K Tb C G Z1 e1 σ H1 → ∃ aa, σ[i]? = some (some (.ref aa)) ∧ OwnAt X.K Z1 H1 (e1.getD i .none) aa ∧ Z1 aa = none := fun {Z1 e1 H1} w1 => by
      rcases hi with hi | hi
      · obtain ⟨ov, h1, aa, e, r, h2, h3⟩ := w1.sl i _ hi
        subst e
        exact ⟨aa, h1, r, h3⟩
      · obtain ⟨ov, h1, aa, e, r, h2⟩ := w1.sl i _ hi
        subst e
        exact ⟨aa, h1, r, (w1.g.ih _ h2).2.1⟩
    obtain ⟨aa, hs, _, _⟩ := key w
    refine ⟨.ref aa, hs, Z, en, w, ?_⟩
    unfold mIo at hm
    revert hm
    cases hds : ml en with
    | exc x => exact fun hm => hm
    | bad => exact fun hm => hm
    | ok p =>
      dsimp only [R.bind]
      intro hm vs Z1 H1 g1 w1 o1
      obtain ⟨a2, hs2, ow, za⟩ := key w1
      rw [hs] at hs2
      cases hs2
      refine ⟨aa, vs, _, p.1, Z1, rfl, hl en p hds, ow, za, o1, w1.g.zh, w1.g.tb, ?_⟩
      revert hm
      cases m (p.2.getD i .none) p.1 with
      | exc x => exact fun hm => hm.elim
      | bad => exact fun hm => hm
      | ok q =>
        intro hm v H' xa t2 o r
        have w2 := w1.mut io1 hi hs xa t2 o
        have zs := nw_sa w1.g.zh xa za
        refine hm v _ H' (g1.trans w ⟨zs, Sb.refl _, ?_⟩) w2 r
        refine ⟨fun b ob e1 e2 hn => xa.ke b ob (fun z => hn (by subst z; exact ⟨i, hi, hs⟩)) e1 e2, xa.tb, fun b ob hsl e1 e2 e3 => ?_⟩
        by_cases hb : b = aa
        · subst hb
          obtain ⟨o', p1, p2, p3, _⟩ := o.obj
          exact ⟨o', p1, p2, p3⟩
        · exact ⟨ob, xa.ke b ob hb e1 e3, e2, e3⟩
end
end VL
namespace VL
open PySem PySem.Spec PyProof.Rows L2
section
variable {X : Cx} {K : Kf} {Tb : Tbs} {C : Cn} {E : XK} {G G1 G' Gl Gb : List SM} {fl fa fb f0 : Fl} {a b c tg iter elt e : Expr} {rest : List Expr} {pos : Pos} {m ma mb mc : En → R (Dt × En)} {na nb nc : En → R (Bool × En)}
/-! ### statements over such readings -/
def RS.ofM {α : Type} (r : R (α × En)) (f : α → En → RS) : RS := match r with
  | .ok p => f p.1 p.2
  | _ => .bad
def sSetM (i : Nat) (m : En → R (Dt × En)) : En → RS := fun e => RS.ofM (m e) fun d e => .nx (e.set i d)
theorem tM_st {α β : Type} {Rl : RelG α β} {m : En → R (α × En)} {f : α → En → RS} {D : Ends} {σ : L2.St} {H : Hp} {Q : β → Hp → Prop} (hq : tS K Tb C E f0 G G' Gl (fun e => RS.ofM (m e) f) D σ H)
    (k : ∀ (a : α) (v : β) (Z1 : Hp) (e1 : En) (H1 : Hp), Wf K Tb C G Z1 e1 σ H1 → Rl Z1 a v → Cont K Tb C E f0 G' Gl D Z1 (f a e1) → Q v H1) : tGn K Tb C G Rl m σ H Q := by
  obtain ⟨Z, en, w, hm⟩ := hq
  refine ⟨Z, en, w, ?_⟩
  have hm : Cont K Tb C E f0 G' Gl D Z (RS.ofM (m en) f) := hm
  revert hm
  cases m en with
  | exc x => exact fun hm => hm
  | bad => exact fun hm => hm
  | ok p => exact fun hm v Z1 H1 g1 w1 r1 => k p.1 v Z1 p.2 H1 w1 r1 (cont_mono g1.s hm)
theorem vs_setM (i : Nat) {x : Str} {p : Pos} (h : VM X Tb C G m e) (hN : X.N.Nodup) (hi : X.N[i]? = some x := by rfl) (hx : Loc X.env.scope x := by first | exact Or.inl rfl | exact Or.inr rfl) (hg : i < G.length := by first | decide | exact of_decide_eq_true rfl) (hs : swapsWith e (some (.Name x p)) pos.line X.env = pure false := by rfl) (hf : X.fn x = true ∨ X.env.scope.names.lookup x = some .local := by first | exact Or.inl rfl | exact Or.inr rfl) : VS X Tb C E f0 G (G.set i .z) Gl (sSetM i m) (.Assign [.Name x p] e pos) :=
  PS.weak (ps_set hN hi hx h hs hf) fun D σ H _ hq => tM_st hq fun d v Z1 e1 H1 w1 r1 hm => hm _ _ _ (Sb.refl _) (w1.setZ hg r1)
def sExprM (m : En → R (Dt × En)) : En → RS := fun e => RS.ofM (m e) fun _ e => .nx e
theorem vs_exprM (h : VM X Tb C G m e) (hs : swapsWith e none pos.line X.env = pure false := by rfl) : VS X Tb C E f0 G G Gl (sExprM m) (.Expr e pos) :=
  PS.weak (ps_expr h hs) fun D σ H _ hq => tM_st hq fun d v Z1 e1 H1 w1 r1 hm => hm _ _ _ (Sb.refl _) w1
def sRetM (m : En → R (Dt × En)) : En → RS := fun e => RS.ofM (m e) fun d e => .rt d e
theorem vs_retM (h : VM X Tb C G m e) (hio : C.io = none ∨ G[0]? = some .io) : VS X Tb C E .z G G' Gl (sRetM m) (.Return (some e) pos) :=
  PS.weak (ps_ret h) fun D σ H _ hq => tM_st hq fun d v Z1 e1 H1 w1 r1 hm => hm v _ _ w1.g (.of w1 hio) r1
def sAsgM (st : Dt → En → Option En) (m : En → R (Dt × En)) : En → RS := fun e => RS.ofM (m e) fun d e => match st d e with
  | some e' => .nx e'
  | none => .bad
theorem vs_asgM {sl : List Nat} {st : Dt → En → Option En} (h : VM X Tb C G m e) (hg : VG X Tb C G G' sl st tg) (hs : swapsWith e (some tg) pos.line X.env = pure false := by rfl) (hw : swappedStores [tg] e X.env = pure none := by rfl) (h1 : (assignEach [tg] X.env).map (·.2) = [assign tg X.env] := by rfl) : VS X Tb C E f0 G G' Gl (sAsgM st m) (.Assign [tg] e pos) :=
  PS.weak (ps_asg h hg hs hw h1) fun D σ H _ hq => tM_st hq fun d v Z1 e1 H1 w1 r1 hm => by
    revert hm
    cases hst : st d e1 with
    | none => exact fun hm => hm.elim
    | some e' => exact fun hm => ⟨Z1, e1, d, e', w1, r1, hst, fun σ' _ w' => hm _ _ _ (Sb.refl _) w'⟩
def sIfM (c : En → R (Bool × En)) (m n : En → RS) : En → RS := fun e => RS.ofM (c e) fun k e => if k = true then m e else n e
theorem vs_ifM {p q : List Stmt} {m n : En → RS} (hc : VMB X Tb C G nc c) (h1 : VSs X Tb C E f0 G G' Gl m p) (h2 : VSs X Tb C E f0 G G' Gl n q) : VS X Tb C E f0 G G' Gl (sIfM nc m n) (.If c p q pos) :=
  PS.weak (ps_if hc h1 h2) fun D σ H _ hq => tM_st hq fun k v Z1 e1 H1 w1 r1 hm => by
    cases r1
    cases k with
    | true => exact ⟨_, e1, w1, hm⟩
    | false => exact ⟨_, e1, w1, hm⟩
/-! ### what is walked -/
abbrev rIt (K : Kf) : RelG (List Dt) It := fun Z ds J => ItOk K Z J ds
abbrev VIM (X : Cx) (Tb : Tbs) (C : Cn) (G : List SM) (m : En → R (List Dt × En)) (tg e : Expr) : Prop := PI X tg e (tGn X.K Tb C G (rIt X.K) m)
theorem ItOk.mono {K : Kf} {S S' : Hp} {J : It} {ds : List Dt} (h : ItOk K S J ds) (s : Sb S S') : ItOk K S' J ds where
  len := h.len
  go := fun i H sh hi => by
    obtain ⟨h1, h2⟩ := h.go i H (s.trans sh) hi
    refine ⟨h1, fun x H' hy => ?_⟩
    obtain ⟨h3, d, h4, h5⟩ := h2 x H' hy
    exact ⟨h3, d, h4, RV.sb (nw_mono s) _ _ h5⟩
  stop := fun i H sh hi => h.stop i H (s.trans sh) hi
theorem vim_q {mi : En → R (List Dt)} (h : VI X Tb C E00 G mi tg e) : VIM X Tb C G (mQ mi) tg e := PI.weak h fun σ H Q _ hq => by
  obtain ⟨Z, en, w, hm⟩ := hq
  refine ⟨Z, en, w, ?_⟩
  unfold mQ at hm
  revert hm
  cases mi en with
  | exc x => exact fun hm => hm.elim
  | bad => exact fun hm => hm
  | ok d => exact fun hm J H' x t o => hm J _ H' (.of w x) (w.ext x t) o
def imSeq (m : En → R (Dt × En)) : En → R (List Dt × En) := mB m fun d => mO (seqD d)
theorem vim_seq (h : VM X Tb C G m e) : VIM X Tb C G (imSeq m) tg e := by
  refine ⟨fun pins s σ H Q I hq => ?_⟩
  obtain ⟨Z, en, w, hm⟩ := hq
  unfold imSeq mB at hm
  cases hd : m en with
  | exc x => rw [hd] at hm; exact hm.elim
  | bad => rw [hd] at hm; exact hm.elim
  | ok p =>
    rw [hd] at hm
    dsimp only [R.bind] at hm
    unfold mO at hm
    cases hs : seqD p.1 with
    | none => rw [hs] at hm; exact hm.elim
    | some ds =>
      rw [hs] at hm
      dsimp only at hm
      rcases seqD_ok hs with hp | hp
      · refine (pi_list (tg := tg) (PE.fit h)).run pins s σ H Q I fun fit => ⟨Z, en, w, ?_⟩
        rw [hd]
        intro v Z1 H1 g1 w1 r1 fit'
        have r2 : RV X.K Z1 (.list ds) v := by rw [← hp]; exact r1
        obtain ⟨a, xs, ev, h1, h2⟩ := r2
        have hl : xs.length ≤ sizeLine := fit' a xs (.inl (.inl (w1.g.zh _ _ h1 rfl)))
        exact ⟨a, ev, ⟨xs, .inl (.inl (w1.g.zh _ _ h1 rfl))⟩, hm _ Z1 H1 g1 w1 (itok_l (.inl (.inl h1)) h2 hl)⟩
      · refine (pi_tup (tg := tg) (PE.fit h)).run pins s σ H Q I fun fit => ⟨Z, en, w, ?_⟩
        rw [hd]
        intro v Z1 H1 g1 w1 r1 fit'
        have r2 : RV X.K Z1 (.tuple ds) v := by rw [← hp]; exact r1
        obtain ⟨a, xs, ev, h1, h2⟩ := r2
        have hl : xs.length ≤ sizeLine := by
          have h3 := SqT.sb w1.g.zh h1
          obtain h4 | h4 := h3
          · exact fit' a xs (.inr h4)
          · obtain ⟨o, its, n, _, _, _, hz, r⟩ := h4
            rw [r.length]
            simpa using hz
        exact ⟨a, ev, ⟨xs, SqT.sb w1.g.zh h1⟩, hm _ Z1 H1 g1 w1 (itok_t h1 h2 hl)⟩
def imOf (f : List Dt → Option (List Dt)) (ml : En → R (List Dt × En)) : En → R (List Dt × En) := mB ml fun ds => mO (f ds)
theorem vim_range1 {p : Pos} {ml : En → R (List Dt × En)} (hg : L2.Gl X "range") (hm : X.mg "range" = none) (ha : VML X Tb C G ml [e]) (hs : starEach [e] X.env = [(false, eval e X.env)] := by rfl) :
    VIM X Tb C G (imOf rg1 ml) tg (.Call (.Name "range" p) [e] [] pos) := PI.weak (pi_range1 hg hm ha hs) fun σ H Q _ hq => by
  refine tG_mono (tG_bind (Rl := rDs X.K) hq) fun vs H1 ⟨ds, Z1, e1, r1, h1⟩ => ?_
  obtain ⟨ds', e, h2⟩ := h1.o
  unfold rg1 at e
  split at e
  · rename_i j
    split at e
    · rename_i hb
      cases e
      obtain ⟨y, ys, rfl, r1, r2⟩ := r1
      cases r1
      cases r2
      refine ⟨j, rfl, hb.1, hb.2.1, h2.ret (Ex.refl _) h2.1.g.tb ?_⟩
      unfold rangeD
      rw [Int.sub_zero]
      exact itok_r hb.2.2
    · cases e
  · cases e
theorem vim_range2 {e2 : Expr} {p : Pos} {ml : En → R (List Dt × En)} (hg : L2.Gl X "range") (hm : X.mg "range" = none) (ha : VML X Tb C G ml [e, e2]) (hs : starEach [e, e2] X.env = [(false, eval e X.env), (false, eval e2 X.env)] := by rfl) (hpl : starEach [e2] X.env = [(false, eval e2 X.env)] := by rfl) :
    VIM X Tb C G (imOf rg2 ml) tg (.Call (.Name "range" p) [e, e2] [] pos) := PI.weak (pi_range2 hg hm ha hs hpl) fun σ H Q _ hq => by
  refine tG_mono (tG_bind (Rl := rDs X.K) hq) fun vs H1 ⟨ds, Z1, e1, r1, h1⟩ => ?_
  obtain ⟨ds', e, h2⟩ := h1.o
  unfold rg2 at e
  split at e
  · rename_i i j
    split at e
    · rename_i hb
      cases e
      obtain ⟨y, ys, rfl, r1, y2, ys2, rfl, r2, r3⟩ := r1
      cases r1
      cases r2
      cases r3
      exact ⟨i, j, rfl, ⟨hb.1, hb.2.1, hb.2.2.1, hb.2.2.2.1⟩, h2.ret (Ex.refl _) h2.1.g.tb (itok_r hb.2.2.2.2)⟩
    · cases e
  · cases e
/-! for, while -/
def sForM (mi : En → R (List Dt × En)) (st : Dt → En → Option En) (body : En → RS) : En → RS := fun e => RS.ofM (mi e) fun ds e => forL st body ds e
theorem vs_forM {sl : List Nat} {body : List Stmt} {mi : En → R (List Dt × En)} {st : Dt → En → Option En} {mb : En → RS} (hi : VIM X Tb C G mi tg iter) (hg : VG X Tb C G G1 sl st tg) (hb : VSs X Tb C E f0 G1 G G mb body) (hp : PassesOwn (model X.prog X.w) X.A X.env X.xe) (hc : X.calm = true) (hs : ∀ x, foldedSetIterable iter X.env x = pure x := by intro _; rfl) :
    VS X Tb C E f0 G G Gl (sForM mi st mb) (.For tg iter body [] pos) := PS.weak (ps_for hp hc hi hg hb hs) fun D σ H _ hq => by
  refine tM_st hq fun ds J S en H1 w1 ok hm => ?_
  refine ⟨fun i k σ H => k = ds.length - i ∧ i ≤ ds.length ∧ ∃ Z' en', Sb S Z' ∧ Wf X.K Tb C G Z' en' σ H ∧ Cont X.K Tb C E f0 G Gl D Z' (forL st mb (ds.drop i) en'), ?_, ?_⟩
  · exact ⟨ds.length, rfl, Nat.zero_le _, _, en, Sb.refl _, w1, hm⟩
  · rintro i k σ2 H2 ⟨rfl, hi, Z2, en2, s2, w2, hm2⟩
    by_cases hlt : i < ds.length
    · right
      obtain ⟨hgo, hy⟩ := ok.go i H2 (s2.trans w2.g.zh) hlt
      have hd : ds.drop i = ds[i] :: ds.drop (i + 1) := List.drop_eq_getElem_cons hlt
      rw [hd] at hm2
      refine ⟨hgo, fun σ H => i + 1 ≤ ds.length ∧ ∃ Z' en', Sb Z2 Z' ∧ Wf X.K Tb C G Z' en' σ H ∧ Cont X.K Tb C E f0 G Gl D Z' (forL st mb (ds.drop (i + 1)) en'), ?_, ?_⟩
      · rintro σ' H' ⟨h1, Z', en', s4, w', hm'⟩
        exact ⟨ds.length - (i + 1), by omega, rfl, h1, Z', en', s2.trans s4, w', hm'⟩
      · intro x H3 hyld
        obtain ⟨sm, d, hd2, rv⟩ := hy x H3 hyld
        rw [List.getElem?_eq_getElem hlt] at hd2
        cases hd2
        have x3 := Ex.of_same sm
        have t3 := w2.g.tb.ext sm
        have w3 := w2.ext x3 t3
        have z3 : Sb Z2 (nw Z2 H2 H3) := nw_s (w2.g.zh.trans x3.ke)
        have rv2 : RV X.K (nw Z2 H2 H3) ds[i] x := RV.sb (nw_mono s2) _ _ rv
        unfold forL at hm2
        revert hm2
        cases hst : st ds[i] en2 with
        | none => exact fun hm2 => hm2.elim
        | some e3 =>
          intro hm2
          refine ⟨_, en2, _, e3, w3, rv2, hst, fun σ4 _ w4 => ⟨_, e3, w4, ?_⟩⟩
          revert hm2
          dsimp only
          cases mb e3 with
          | nx e4 => exact fun hm2 σ' Z' H' s' w' => ⟨hlt, Z', e4, z3.trans s', w', cont_mono (z3.trans s') hm2⟩
          | ct e4 => exact fun hm2 σ' Z' H' s' w' => ⟨hlt, Z', e4, z3.trans s', w', cont_mono (z3.trans s') hm2⟩
          | bk e4 => exact fun hm2 σ' Z' H' s' w' => hm2 σ' Z' H' (z3.trans s') w'
          | rt y e4 => exact fun hm2 => hm2
          | exc y => exact fun hm2 => hm2
          | bad => exact fun hm2 => hm2
    · left
      have hn : i = ds.length := by omega
      refine ⟨ok.stop i H2 (s2.trans w2.g.zh) hn, ?_⟩
      rw [List.drop_of_length_le (Nat.le_of_eq hn.symm)] at hm2
      exact hm2 σ2 Z2 H2 (Sb.refl _) w2
def whileM (c : En → R (Bool × En)) (body : En → RS) : Nat → En → RS
  | 0, _ => .bad
  | n + 1, e => RS.ofM (c e) fun k e => if k = true then (match body e with
      | .nx e2 => whileM c body n e2
      | .ct e2 => whileM c body n e2
      | .bk e2 => .nx e2
      | .rt x e2 => .rt x e2
      | .exc x => .exc x
      | .bad => .bad) else .nx e
theorem vs_whileM {c : Expr} {body : List Stmt} {mb : En → RS} (n : Nat) (hc : VMB X Tb C G nc c) (hb : VSs X Tb C E f0 G G G mb body) (hp : PassesOwn (model X.prog X.w) X.A X.env X.xe) : VS X Tb C E f0 G G Gl (whileM nc mb n) (.While c body [] pos) :=
  PS.weak (ps_while hp hc hb) fun D σ H _ hq => by
    refine ⟨fun k σ H => ∃ Z en, Wf X.K Tb C G Z en σ H ∧ Cont X.K Tb C E f0 G Gl D Z (whileM nc mb k en), ⟨n, hq⟩, ?_⟩
    rintro k σ H hk
    cases k with
    | zero =>
      obtain ⟨Z, en, w, hm⟩ := hk
      exact hm.elim
    | succ k =>
      refine tM_st (f := fun k2 e => if k2 = true then (match mb e with
        | .nx e2 => whileM nc mb k e2
        | .ct e2 => whileM nc mb k e2
        | .bk e2 => .nx e2
        | .rt x e2 => .rt x e2
        | .exc x => .exc x
        | .bad => .bad) else .nx e) hk fun k2 v Z1 e1 H1 w1 r1 hm => ?_
      cases r1
      cases k2 with
      | false => exact hm _ _ _ (Sb.refl _) w1
      | true =>
        refine ⟨fun σ' H' => ∃ Z en, Wf X.K Tb C G Z en σ' H' ∧ Cont X.K Tb C E f0 G Gl D Z (whileM nc mb k en), fun σ' H' h => ⟨k, Nat.lt_succ_self k, h⟩, _, e1, w1, ?_⟩
        revert hm
        simp only [if_true]
        cases mb e1 with
        | nx e4 => exact fun hm2 σ' Z' H' s' w' => ⟨Z', e4, w', cont_mono s' hm2⟩
        | ct e4 => exact fun hm2 σ' Z' H' s' w' => ⟨Z', e4, w', cont_mono s' hm2⟩
        | bk e4 => exact fun hm2 σ' Z' H' s' w' => hm2 σ' Z' H' s' w'
        | rt y e4 => exact fun hm2 => hm2
        | exc y => exact fun hm2 => hm2
        | bad => exact fun hm2 => hm2
end
end VL
namespace VL
open PySem PySem.Spec PyProof.Rows L2
section
variable {X : Cx} {K : Kf} {Tb : Tbs} {C : Cn} {E : XK} {G G1 G' Gl Gb : List SM} {fl fa fb f0 : Fl} {a b c tg iter elt e : Expr} {rest : List Expr} {pos : Pos} {m ma mb mc me : En → R (Dt × En)} {na nb nc mt : En → R (Bool × En)}
/-! ### own things changed in place -/
theorem Wf.at {Z H : Hp} {en : En} {σ : L2.St} (w : Wf K Tb C G Z en σ H) {i : Nat} (hi : G[i]? = some .own ∨ G[i]? = some .io) : ∃ aa, σ[i]? = some (some (.ref aa)) ∧ OwnAt K Z H (en.getD i .none) aa ∧ Z aa = none := by
  rcases hi with hi | hi
  · obtain ⟨ov, h1, aa, e, r, h2, h3⟩ := w.sl i _ hi
    subst e
    exact ⟨aa, h1, r, h3⟩
  · obtain ⟨ov, h1, aa, e, r, h2⟩ := w.sl i _ hi
    subst e
    exact ⟨aa, h1, r, (w.g.ih _ h2).2.1⟩
theorem exA_upd {H : Hp} {a : Addr} {o o' : HO} (h : H a = some o) (n : nt o = true) : ExA a H (upd H a o') := ⟨fun b u hb e _ => by rw [upd_ne hb]; exact e, fun b ps e => ⟨ps, by
  have hb : b ≠ a := fun z => by subst z; rw [h] at e; cases e; cases n
  rw [upd_ne hb]; exact e⟩⟩
def appD : Dt → Dt → Option Dt
  | .list ds, d => if ds.length < sizeLine then some (.list (ds ++ [d])) else none
  | _, _ => none
def isL : Dt → Bool
  | .list _ => true
  | _ => false
/-- x.append(e), x.extend(e) -/
def sMut (f : Dt → Dt → Option Dt) (i : Nat) (m : En → R (Dt × En)) : En → RS := fun e => if isL (e.getD i .none) = true then RS.ofM (m e) (fun d e => match f (e.getD i .none) d with
  | some d' => .nx (e.set i d')
  | none => .bad) else .bad
def extD : Dt → Dt → Option Dt
  | .list ds, .list es => if ds.length + es.length ≤ sizeLine then some (.list (ds ++ es)) else none
  | _, _ => none
theorem OwnAt.list {S H : Hp} {d : Dt} {aa : Addr} (h : OwnAt K S H d aa) (l : isL d = true) : ∃ ds xs, d = .list ds ∧ H aa = some (.lst xs) ∧ RVs K S ds xs := by
  cases d with
  | list ds => obtain ⟨xs, h1, h2⟩ := h; exact ⟨ds, xs, rfl, h1, h2⟩
  | none => cases l
  | bool _ => cases l
  | int _ => cases l
  | str _ => cases l
  | tuple _ => cases l
  | dict _ => cases l
theorem tabs_upd' {H : Hp} {D : Addr} {xs : List V} {o : HO} (t : LamX.Tabs Tb H) (hD : H D = some (.lst xs)) : LamX.Tabs Tb (upd H D o) := tabs_upd t hD
theorem md_append : typeOf (.builtin "list.append") = pure (.type "method_descriptor") := F.type_list_append
theorem md_extend : typeOf (.builtin "list.extend") = pure (.type "method_descriptor") := F.type_list_extend
theorem mut_lst {Z H : Hp} {en : En} {σ : L2.St} (w : Wf K Tb C G Z en σ H) (io1 : ioOk G = true) {i : Nat} {aa : Addr} {xs ys : List V} {ds : List Dt} (hi : G[i]? = some .own ∨ G[i]? = some .io) (hs : σ[i]? = some (some (.ref aa))) (h : H aa = some (.lst xs)) (r : RVs K Z ds ys) (za : Z aa = none) :
    Wf K Tb C G (nw Z H (upd H aa (.lst ys))) (en.set i (.list ds)) σ (upd H aa (.lst ys)) ∧ Sb Z (nw Z H (upd H aa (.lst ys))) := by
  have xa : ExA aa H (upd H aa (.lst ys)) := exA_upd h rfl
  have zs := nw_sa w.g.zh xa za
  exact ⟨w.mut io1 hi hs xa (tabs_upd w.g.tb h) ⟨ys, upd_same, RVs.sb zs _ _ r⟩, zs⟩
theorem vs_app (i : Nat) {x : Str} {p apos cpos : Pos} (h : VM X Tb C G m e) (hi : (G[i]? = some .own ∨ G[i]? = some .io) := by first | exact Or.inl rfl | exact Or.inr rfl) (io1 : ioOk G = true := by rfl) (hN : X.N[i]? = some x := by rfl) (hv : Vis X.env.scope x := by first | exact Or.inl rfl | exact Or.inr (Or.inl rfl) | exact Or.inr (Or.inr rfl)) (hd : (x == ("__debug__" : Str)) = false := by decide)
    (hcd : (x == ("__classdict__" : Str)) = false := by decide)
    (hbase : attributeBase (.Name x p) "append" X.env (eval (.Name x p) X.env) = eval (.Name x p) X.env := by rfl)
    (hfew : ((backTo cpos (starEach [e] X.env)).all (fun x => !x.1) && (backToKw cpos (keywordEach [] X.env)).all (fun x => x.1.isSome)
      && decide ([e].length + ([] : List Keyword).length + (if ([] : List Keyword).isEmpty then 0 else 1) < 30)) = true := by rfl)
    (hline : (apos.endLine == cpos.line) = true := by rfl) (hs : starEach [e] X.env = (false, eval e X.env) :: starEach [] X.env := by rfl) (hplain : (backTo cpos (starEach [] X.env)).any (·.1) = false := by rfl) (hsw : swapsWith (.Call (.Attribute (.Name x p) "append" apos) [e] [] cpos) none pos.line X.env = pure false := by rfl) :
    VS X Tb C E f0 G G Gl (sMut appD i m) (.Expr (.Call (.Attribute (.Name x p) "append" apos) [e] [] cpos) pos) :=
  PS.weak (ps_expr (pe_bm F.plainAttrs_list F.slot_list_append md_append mt_append (pe_var hN hv hd hcd) (pa_cons (PE.fit h) pa_nil hs) hbase hfew hline hs hplain) hsw) fun D σ H _ hq => by
    obtain ⟨Z, en, w, hm⟩ := hq
    obtain ⟨aa, hs, ow, za⟩ := w.at hi
    unfold sMut at hm
    by_cases hl : isL (en.getD i .none) = true
    · rw [if_pos hl] at hm
      obtain ⟨ds0, xs0, _, e1, _⟩ := ow.list hl
      refine ⟨.ref aa, hs, .inl ⟨rfl, xs0, .inl (.inl e1)⟩, fun _ => ?_⟩
      revert hm
      generalize hf : (fun (d : Dt) (e : En) => (match appD (e.getD i .none) d with
        | some d' => RS.nx (e.set i d')
        | none => RS.bad)) = f
      intro hm
      refine ⟨Z, en, w, ?_⟩
      revert hm
      cases m en with
      | exc x => exact fun hm => hm
      | bad => exact fun hm => hm
      | ok q =>
        intro hm v Z1 H1 g1 w1 r1 fit1
        have hm := cont_mono g1.s hm
        subst hf
        obtain ⟨a2, hs2, ow1, za1⟩ := w1.at hi
        rw [hs] at hs2
        cases hs2
        revert hm
        dsimp only [RS.ofM]
        cases hap : appD (q.2.getD i .none) q.1 with
        | none => exact fun hm => hm.elim
        | some d' =>
          intro hm
          unfold appD at hap
          split at hap
          · rename_i ds hds
            split at hap
            · rename_i hlt
              cases hap
              rw [hds] at ow1
              obtain ⟨xs, q1, q2⟩ := ow1
              obtain ⟨w2, z2⟩ := mut_lst w1 io1 hi hs q1 (q2.app (RVs.one r1)) za1
              exact ⟨aa, xs, v, rfl, rfl, q1, by rw [q2.len]; exact hlt, hm _ _ _ z2 w2⟩
            · cases hap
          · cases hap
    · rw [if_neg hl] at hm
      exact hm.elim
theorem vs_ext (i : Nat) {x : Str} {p apos cpos : Pos} (h : VM X Tb C G m e) (hi : (G[i]? = some .own ∨ G[i]? = some .io) := by first | exact Or.inl rfl | exact Or.inr rfl) (io1 : ioOk G = true := by rfl) (hN : X.N[i]? = some x := by rfl) (hv : Vis X.env.scope x := by first | exact Or.inl rfl | exact Or.inr (Or.inl rfl) | exact Or.inr (Or.inr rfl)) (hd : (x == ("__debug__" : Str)) = false := by decide)
    (hcd : (x == ("__classdict__" : Str)) = false := by decide)
    (hbase : attributeBase (.Name x p) "extend" X.env (eval (.Name x p) X.env) = eval (.Name x p) X.env := by rfl)
    (hfew : ((backTo cpos (starEach [e] X.env)).all (fun x => !x.1) && (backToKw cpos (keywordEach [] X.env)).all (fun x => x.1.isSome)
      && decide ([e].length + ([] : List Keyword).length + (if ([] : List Keyword).isEmpty then 0 else 1) < 30)) = true := by rfl)
    (hline : (apos.endLine == cpos.line) = true := by rfl) (hs : starEach [e] X.env = (false, eval e X.env) :: starEach [] X.env := by rfl) (hplain : (backTo cpos (starEach [] X.env)).any (·.1) = false := by rfl) (hsw : swapsWith (.Call (.Attribute (.Name x p) "extend" apos) [e] [] cpos) none pos.line X.env = pure false := by rfl) :
    VS X Tb C E f0 G G Gl (sMut extD i m) (.Expr (.Call (.Attribute (.Name x p) "extend" apos) [e] [] cpos) pos) :=
  PS.weak (ps_expr (pe_bm F.plainAttrs_list F.slot_list_extend md_extend mt_extend (pe_var hN hv hd hcd) (pa_cons (PE.fit h) pa_nil hs) hbase hfew hline hs hplain) hsw) fun D σ H _ hq => by
    obtain ⟨Z, en, w, hm⟩ := hq
    obtain ⟨aa, hs, ow, za⟩ := w.at hi
    unfold sMut at hm
    by_cases hl : isL (en.getD i .none) = true
    · rw [if_pos hl] at hm
      obtain ⟨ds0, xs0, _, e1, _⟩ := ow.list hl
      refine ⟨.ref aa, hs, .inl ⟨rfl, xs0, .inl (.inl e1)⟩, fun _ => ?_⟩
      revert hm
      generalize hf : (fun (d : Dt) (e : En) => (match extD (e.getD i .none) d with
        | some d' => RS.nx (e.set i d')
        | none => RS.bad)) = f
      intro hm
      refine ⟨Z, en, w, ?_⟩
      revert hm
      cases m en with
      | exc x => exact fun hm => hm
      | bad => exact fun hm => hm
      | ok q =>
        intro hm v Z1 H1 g1 w1 r1 fit1
        have hm := cont_mono g1.s hm
        subst hf
        obtain ⟨a2, hs2, ow1, za1⟩ := w1.at hi
        rw [hs] at hs2
        cases hs2
        revert hm r1
        dsimp only [RS.ofM]
        cases hap : extD (q.2.getD i .none) q.1 with
        | none => exact fun _ hm => hm.elim
        | some d' =>
          intro r1 hm
          unfold extD at hap
          split at hap
          · rename_i ds es hds hes
            split at hap
            · rename_i hlt
              cases hap
              rw [hds] at ow1
              rw [hes] at r1
              obtain ⟨xs, q1, q2⟩ := ow1
              obtain ⟨b, ys, rfl, q3, q4⟩ := r1
              obtain ⟨w2, z2⟩ := mut_lst w1 io1 hi hs q1 (q2.app q4) za1
              exact ⟨aa, b, xs, ys, rfl, rfl, q1, w1.g.zh _ _ q3 rfl, by rw [q2.len, q4.len]; exact hlt, hm _ _ _ z2 w2⟩
            · cases hap
          · cases hap
    · rw [if_neg hl] at hm
      exact hm.elim
/-- x[j] = e -/
def stoD : Dt → Dt → Dt → Option Dt
  | .list ds, .int k, d => (ixN ds.length k).map fun j => .list (ds.set j d)
  | _, _, _ => none
def sSto (i : Nat) (m : En → R (Dt × En)) (mi : En → R Dt) : En → RS := fun e => RS.ofM (m e) fun d e => match mi e with
  | .ok j => match stoD (e.getD i .none) j d with
    | some d' => .nx (e.set i d')
    | none => .bad
  | _ => .bad
theorem vs_sto (i : Nat) {x : Str} {j : Expr} {p p2 : Pos} {mi : En → R Dt} (h : VM X Tb C G m e) (hj : VQ X Tb C E00 G fa mi j) (hi : (G[i]? = some .own ∨ G[i]? = some .io) := by first | exact Or.inl rfl | exact Or.inr rfl) (io1 : ioOk G = true := by rfl) (hN : X.N[i]? = some x := by rfl) (hv : Vis X.env.scope x := by first | exact Or.inl rfl | exact Or.inr (Or.inl rfl) | exact Or.inr (Or.inr rfl)) (hd : (x == ("__debug__" : Str)) = false := by decide)
    (hcd : (x == ("__classdict__" : Str)) = false := by decide)
    (ha : ∀ v, assign (.Subscript (.Name x p) j p2) X.env v = (do
      let ov ← holding [v] (eval (.Name x p) X.env)
      let iv ← holding [v, ov] (eval j X.env)
      standAt p2
      holding [v, ov, iv] (setItem ov iv v)
      release [v, ov, iv] []) := by intro _; rfl)
    (hs : swapsWith e (some (.Subscript (.Name x p) j p2)) pos.line X.env = pure false := by rfl) (hw : swappedStores [.Subscript (.Name x p) j p2] e X.env = pure none := by rfl) (h1 : (assignEach [.Subscript (.Name x p) j p2] X.env).map (·.2) = [assign (.Subscript (.Name x p) j p2) X.env] := by rfl) :
    VS X Tb C E f0 G G Gl (sSto i m mi) (.Assign [.Subscript (.Name x p) j p2] e pos) :=
  PS.weak (ps_asg h (pg_sub (pe_var hN hv hd hcd) hj set_list ha) hs hw h1) fun D σ H _ hq => by
    refine tM_st hq fun d v Z1 e1 H1 w1 r1 hm => ?_
    obtain ⟨aa, hs, ow, za⟩ := w1.at hi
    refine ⟨.ref aa, hs, Z1, e1, w1, ?_⟩
    revert hm
    cases mi e1 with
    | exc x => exact fun hm => hm.elim
    | bad => exact fun hm => hm.elim
    | ok dj =>
      dsimp only
      cases hst : stoD (e1.getD i .none) dj d with
      | none => exact fun hm => hm.elim
      | some d' =>
        intro hm y H2 x2 t2 o2
        have w2 := w1.ext x2 t2
        have s2 : Sb Z1 (nw Z1 H1 H2) := nw_s (w1.g.zh.trans x2.ke)
        obtain ⟨a2, hs2, ow2, za2⟩ := w2.at hi
        rw [hs] at hs2
        cases hs2
        unfold stoD at hst
        split at hst
        · rename_i _ ds k hds
          rw [Option.map_eq_some_iff] at hst
          obtain ⟨jj, hjj, rfl⟩ := hst
          rw [hds] at ow2
          obtain ⟨xs, q1, q2⟩ := ow2
          have ey : y = .int k := o2.rv
          obtain ⟨w3, z3⟩ := mut_lst w2 io1 hi hs q1 (RVs.set (RV.sb s2 _ _ r1) jj q2) za2
          exact ⟨aa, xs, k, jj, rfl, ey, q1, by rw [q2.len]; exact hjj, hm _ _ _ (s2.trans z3) w3⟩
        · cases hst
end
end VL
namespace VL
open PySem PySem.Spec PyProof.Rows L2
section
variable {X : Cx} {K : Kf} {Tb : Tbs} {C : Cn} {E : XK} {G G1 G' Gl Gb : List SM} {fl fa fb f0 : Fl} {tg iter elt e : Expr} {pos : Pos} {me : En → R (Dt × En)} {mt : En → R (Bool × En)}
/-! ### comprehensions whose parts may change owned things -/
def fmM (f : Dt → En → R (Option Dt × En)) : List Dt → En → R (List Dt × En)
  | [], e => .ok ([], e)
  | d :: ds, e => (f d e).bind fun p => (fmM f ds p.2).bind fun q => .ok ((match p.1 with | some x => x :: q.1 | none => q.1), q.2)
def lcItemM (vs : List Nat) (st : Dt → En → Option En) (mt : En → R (Bool × En)) (me : En → R (Dt × En)) (d : Dt) (e : En) : R (Option Dt × En) := match st d e with
  | none => .bad
  | some e1 => (mt e1).bind fun p => if p.1 = true then (me p.2).bind fun q => .ok (some q.1, wipeE q.2 vs) else .ok (none, wipeE p.2 vs)
def mLC (mi : En → R (List Dt × En)) (vs : List Nat) (st : Dt → En → Option En) (mt : En → R (Bool × En)) (me : En → R (Dt × En)) : En → R (Dt × En) := fun e => (mi e).bind fun p => (fmM (lcItemM vs st mt me) p.1 (wipeE p.2 vs)).bind fun q => .ok (.list q.1, q.2)
abbrev VTsM (X : Cx) (Tb : Tbs) (C : Cn) (G : List SM) (m : En → R (Bool × En)) (ifs : List Expr) : Prop := PTs X ifs (tMB X.K Tb C G m)
theorem vtsm_q {ifs : List Expr} {m : En → R Bool} (h : VTs X Tb C E00 G m ifs) : VTsM X Tb C G (mQ m) ifs := ⟨fun pins s σ H Q I hq => h.run pins s σ H Q I (by
  obtain ⟨Z, en, w, hm⟩ := hq
  refine ⟨Z, en, w, ?_⟩
  unfold mQ at hm
  revert hm
  cases m en with
  | exc x => exact fun hm => hm.elim
  | bad => exact fun hm => hm
  | ok d => exact fun hm H' x t => hm d _ H' (.of w x) (w.ext x t) rfl)⟩
theorem vtsm_one {c : Expr} (h : VMB X Tb C G mt c) : VTsM X Tb C G mt [c] := pts_one h
/-- the owned slots of Gb are those of G, off vs -/
def slotsIn (Gb G : List SM) (vs : List Nat) : Bool := (List.range Gb.length).all fun i => match Gb[i]? with
  | some .own => decide (G[i]? = some .own) && !vs.contains i
  | some .io => decide (G[i]? = some .io) && !vs.contains i
  | _ => true
theorem slotsIn.at {vs : List Nat} (h : slotsIn Gb G vs = true) {i : Nat} (hi : Gb[i]? = some .own ∨ Gb[i]? = some .io) : (G[i]? = some .own ∨ G[i]? = some .io) ∧ i ∉ vs := by
  have hlt : i < Gb.length := by rcases hi with hi | hi <;> exact (List.getElem?_eq_some_iff.mp hi).1
  have h2 := List.all_eq_true.mp h i (List.mem_range.mpr hlt)
  rcases hi with hi | hi
  · rw [hi] at h2
    simp only [Bool.and_eq_true, decide_eq_true_eq, Bool.not_eq_true', List.contains_eq_mem, decide_eq_false_iff_not] at h2
    exact ⟨.inl h2.1, h2.2⟩
  · rw [hi] at h2
    simp only [Bool.and_eq_true, decide_eq_true_eq, Bool.not_eq_true', List.contains_eq_mem, decide_eq_false_iff_not] at h2
    exact ⟨.inr h2.1, h2.2⟩
theorem ExS.up {σ σ' : L2.St} {H H' : Hp} (x : ExS Gb σ' H H') (h : ∀ a, Slt Gb σ' a → Slt G σ a) (hk : ∀ a o, Slt G σ a → ¬ Slt Gb σ' a → H a = some o → isTp o = false → nt o = true → H' a = some o) : ExS G σ H H' where
  ke := fun a o e n s => x.ke a o e n fun z => s (h a z)
  tb := x.tb
  sl := fun a o s e t n => by
    by_cases z : Slt Gb σ' a
    · exact x.sl a o z e t n
    · exact ⟨o, hk a o s z e t n, t, n⟩
theorem fmM_cons {f : Dt → En → R (Option Dt × En)} {d : Dt} {ds xs outs : List Dt} {e ef : En} (h : (fmM f (d :: ds) e).bind (fun q => .ok (outs ++ q.1, q.2)) = .ok (xs, ef)) :
    ∃ p, f d e = .ok p ∧ (fmM f ds p.2).bind (fun q => .ok ((match p.1 with | some x => outs ++ [x] | none => outs) ++ q.1, q.2)) = .ok (xs, ef) := by
  unfold fmM at h
  cases hf : f d e with
  | exc x => rw [hf] at h; cases h
  | bad => rw [hf] at h; cases h
  | ok p =>
    rw [hf] at h
    refine ⟨p, rfl, ?_⟩
    revert h
    dsimp only [R.bind]
    cases fmM f ds p.2 with
    | exc x => exact fun h => by cases h
    | bad => exact fun h => by cases h
    | ok q =>
      intro h
      cases hp : p.1 with
      | none => rw [hp] at h; exact h
      | some y =>
        rw [hp] at h
        rw [← h]
        simp
/-- D's object changes; nobody holds it -/
theorem Wf.updD {Z H : Hp} {en : En} {σ : L2.St} {D : Addr} {xs : List V} {o : HO} (w : Wf K Tb C G Z en σ H) (hD : H D = some (.lst xs)) (zD : ∀ u, Z D = some u → nt u = true → False) (sD : ¬ Slt G σ D) (h0 : C.H0 D = none) (hio : C.io ≠ some D) : Wf K Tb C G Z en σ (upd H D o) where
  g := by
    refine ⟨fun b u e n => ?_, w.g.zz, w.g.fr, fun b u e n hi => ?_, fun b ps e => ?_, fun b hb => ?_, tabs_upd w.g.tb hD⟩
    · rw [upd_ne (fun z => by subst z; exact zD u e n)]
      exact w.g.zh b u e n
    · rw [upd_ne (fun z => by subst z; rw [h0] at e; cases e)]
      exact w.g.ke b u e n hi
    · obtain ⟨p, e2⟩ := w.g.kt b ps e
      exact ⟨p, by rw [upd_ne (fun z => by subst z; rw [h0] at e; cases e)]; exact e2⟩
    · obtain ⟨h1, h2, u, h3, h4, h5⟩ := w.g.ih b hb
      refine ⟨h1, h2, u, ?_, h4, h5⟩
      rw [upd_ne (fun z => by subst z; exact hio hb)]
      exact h3
  sl := fun i m hm => by
    obtain ⟨ov, h1, h2⟩ := w.sl i m hm
    refine ⟨ov, h1, ?_⟩
    cases m with
    | dead => exact trivial
    | z => exact h2
    | own =>
      obtain ⟨b, h3, h4, h5, h6⟩ := h2
      subst h3
      have hb : b ≠ D := fun z => by subst z; exact sD ⟨i, .inl hm, h1⟩
      exact ⟨b, rfl, h4.mono (Sb.refl _) (fun u e _ => by rw [upd_ne hb]; exact e), h5, h6⟩
    | ptr b => exact h2
    | io =>
      obtain ⟨b, h3, h4, h5⟩ := h2
      subst h3
      have hb : b ≠ D := fun z => by subst z; exact sD ⟨i, .inr hm, h1⟩
      exact ⟨b, rfl, h4.mono (Sb.refl _) (fun u e _ => by rw [upd_ne hb]; exact e), h5⟩
  ap := w.ap
  le := w.le
  ls := w.ls
/-- D's object, frozen -/
theorem Wf.addZ {Z H : Hp} {en : En} {σ : L2.St} {D : Addr} (w : Wf K Tb C G Z en σ H) (sD : ¬ Slt G σ D) (h0 : C.H0 D = none) (hio : C.io ≠ some D) (zD : ∀ u, Z D = some u → nt u = true → False) : Wf K Tb C G (fzA Z H D) en σ H ∧ Sb Z (fzA Z H D) := by
  have zs : Sb Z (fzA Z H D) := fun b o e1 e2 => by
    unfold fzA
    split
    · rename_i hb
      subst hb
      exact (zD o e1 e2).elim
    · exact e1
  have ne : ∀ b, b ≠ D → Z b = none → fzA Z H D b = none := fun b hb e => by
    unfold fzA
    rw [if_neg hb]
    exact e
  refine ⟨⟨⟨fun b u e n => ?_, w.g.zz.trans zs, fun b u e n => ?_, w.g.ke, w.g.kt, fun b hb => ?_, w.g.tb⟩, fun i m hm => ?_, w.ap, w.le, w.ls⟩, zs⟩
  · unfold fzA at e
    split at e
    · rename_i hb
      subst hb
      exact e
    · exact w.g.zh b u e n
  · unfold fzA at e
    split at e
    · rename_i hb
      subst hb
      exact .inr (.inl h0)
    · exact w.g.fr b u e n
  · obtain ⟨h1, h2, h3⟩ := w.g.ih b hb
    exact ⟨h1, ne b (fun z => by subst z; exact hio hb) h2, h3⟩
  · obtain ⟨ov, h1, h2⟩ := w.sl i m hm
    refine ⟨ov, h1, ?_⟩
    cases m with
    | dead => exact trivial
    | z =>
      obtain ⟨v, e, r⟩ := h2
      exact ⟨v, e, RV.sb zs _ _ r⟩
    | own =>
      obtain ⟨b, h3, h4, h5, h6⟩ := h2
      subst h3
      have hb : b ≠ D := fun z => by subst z; exact sD ⟨i, .inl hm, h1⟩
      exact ⟨b, rfl, h4.mono zs (fun u e _ => e), h5, ne b hb h6⟩
    | ptr b => exact h2
    | io =>
      obtain ⟨b, h3, h4, h5⟩ := h2
      exact ⟨b, h3, h4.mono zs (fun u e _ => e), h5⟩
theorem wipeG_get {j : Nat} : ∀ {vs : List Nat}, j ∉ vs → (wipeG G vs)[j]? = G[j]?
  | [], _ => rfl
  | v :: vs, h => by
    have h1 : v ≠ j := fun z => h (by simp [z])
    have h2 : j ∉ vs := fun z => h (List.mem_cons_of_mem _ z)
    unfold wipeG
    rw [List.getElem?_set_ne h1, wipeG_get h2]
/-- the dead slots' names come back -/
theorem Wf.unwipe {Z H : Hp} {en : En} {σ : L2.St} {vs : List Nat} (w : Wf K Tb C (wipeG G vs) Z en (L2.wipe σ vs) H) (hd : ∀ i ∈ vs, G[i]? = some .dead) : Wf K Tb C G Z en σ H where
  g := w.g
  sl := fun i m hm => by
    by_cases hi : i ∈ vs
    · rw [hd i hi] at hm
      cases hm
      have hlt := (List.getElem?_eq_some_iff.mp (hd i hi)).1
      have hls : i < σ.length := by
        have := w.ls
        rw [L2.wipe_length, wipeG_len] at this
        omega
      exact ⟨σ[i], List.getElem?_eq_getElem hls, trivial⟩
    · have := w.sl i m (by rw [wipeG_get hi]; exact hm)
      rw [wipe_get hi] at this
      exact this
  ap := fun i j a hij h1 h2 h3 => by
    have hi : i ∉ vs := fun z => by rw [hd i z] at h1; cases h1
    have hj : j ∉ vs := fun z => by rw [hd j z] at h2; cases h2
    have := w.ap i j a hij (by rw [wipeG_get hi]; exact h1) (by rw [wipeG_get hj]; exact h2) (by rw [wipe_get hi]; exact h3)
    rw [wipe_get hj] at this
    exact this
  le := by rw [w.le, wipeG_len]
  ls := by
    have := w.ls
    rw [L2.wipe_length, wipeG_len] at this
    exact this
theorem lcm_w {vs sl : List Nat} {mi : En → R (List Dt × En)} {st : Dt → En → Option En} {σ : L2.St} {H : Hp} {Q : VK} (hv : ∀ i ∈ vs, G[i]? = some .dead) (hsl : ∀ i ∈ sl, i ∈ vs) (hGb : slotsIn Gb G vs = true) (hwg : wipeG Gb vs = wipeG G vs) (hvb : ∀ i ∈ vs, i < Gb.length)
    (hq : tM K Tb C G (mLC mi vs st mt me) σ H Q) : tLc (tGn K Tb C G (rIt K) mi) (tG K Tb C (wipeG G vs) Gb sl st) (tMB K Tb C Gb mt) (tM K Tb C Gb me) vs σ H Q := by
  obtain ⟨Z, en, w, hm⟩ := hq
  refine ⟨Z, en, w, ?_⟩
  unfold mLC at hm
  revert hm
  cases mi en with
  | exc x => exact fun hm => hm
  | bad => exact fun hm => hm
  | ok p =>
    dsimp only [R.bind]
    cases hf : fmM (lcItemM vs st mt me) p.1 (wipeE p.2 vs) with
    | exc x => exact fun hm => hm.elim
    | bad => exact fun hm => hm.elim
    | ok q =>
      obtain ⟨xs, ef⟩ := q
      intro hm J Z1 H1 g1 w1 iok D nD
      have hvl : ∀ i ∈ vs, i < G.length := fun i hi => (List.getElem?_eq_some_iff.mp (hv i hi)).1
      have hD0 : H D = none := g1.x.none w nD
      have sD : ¬ Slt G σ D := fun z => by
        obtain ⟨_, o, e1, _⟩ := w1.slt z
        rw [nD] at e1
        cases e1
      have h0 : C.H0 D = none := w1.g.h0 nD
      have hio : C.io ≠ some D := fun z => by
        obtain ⟨_, _, o, e1, _⟩ := w1.g.ih D z
        rw [nD] at e1
        cases e1
      have zD1 : ∀ u, Z1 D = some u → nt u = true → False := fun u e n => by
        have := w1.g.zh D u e n
        rw [nD] at this
        cases this
      have wW := w1.wipe vs hvl
      refine ⟨fun i k H' => k = p.1.length - i ∧ i ≤ p.1.length ∧ ∃ Z' e' acc outs, Wf K Tb C (wipeG G vs) Z' e' (L2.wipe σ vs) H' ∧ Sb Z1 Z' ∧ (∀ a o, Z' a = some o → nt o = true → nw Z H H' a = some o) ∧ ExS G σ H H' ∧ (∀ u, Z' D = some u → nt u = true → False) ∧ H' D = some (.lst acc) ∧ RVs K Z' outs acc ∧ outs.length ≤ i ∧
        (fmM (lcItemM vs st mt me) (p.1.drop i) e').bind (fun q => .ok (outs ++ q.1, q.2)) = .ok (xs, ef), ?_, ?_⟩
      · have sm : Same H1 (upd H1 D (.lst [])) := same_upd nD
        have x1 := Ex.of_same sm
        refine ⟨p.1.length, rfl, Nat.zero_le _, Z1, wipeE p.2 vs, [], [], ?_, Sb.refl _, fun a o e n => nw_ext x1 a o (g1.n a o e n) n, g1.x.trans (.of x1), zD1, upd_same, rfl, Nat.le_refl _, ?_⟩
        · refine ⟨⟨wW.g.zh.trans x1.ke, wW.g.zz, wW.g.fr, fun a o e n hi => x1.ke a o (wW.g.ke a o e n hi) n, fun a ps e => by
            obtain ⟨p, e1⟩ := wW.g.kt a ps e
            exact x1.tb a p e1, fun a ha => ?_, wW.g.tb.ext sm⟩, fun i m hm => ?_, wW.ap, wW.le, wW.ls⟩
          · obtain ⟨k1, k2, o, k3, k4, k5⟩ := wW.g.ih a ha
            exact ⟨k1, k2, o, x1.ke a o k3 k5, k4, k5⟩
          · obtain ⟨ov, k1, k2⟩ := wW.sl i m hm
            refine ⟨ov, k1, ?_⟩
            cases m with
            | dead => exact trivial
            | z => exact k2
            | own =>
              obtain ⟨b, k3, k4, k5, k6⟩ := k2
              exact ⟨b, k3, k4.mono (Sb.refl _) (fun o e n => x1.ke b o e n), k5, k6⟩
            | ptr b => exact k2
            | io =>
              obtain ⟨b, k3, k4, k5⟩ := k2
              exact ⟨b, k3, k4.mono (Sb.refl _) (fun o e n => x1.ke b o e n), k5⟩
        · rw [List.drop_zero, hf]
          rfl
      · rintro i k H2 ⟨rfl, hi2, Z2, e2, acc, outs, w2, s2, n2, x2, zD2, hacc, hrv, hlen, hrest⟩
        by_cases hlt : i < p.1.length
        · right
          obtain ⟨hgo, hy⟩ := iok.go i H2 (s2.trans w2.g.zh) hlt
          rw [List.drop_eq_getElem_cons hlt] at hrest
          refine ⟨hgo, fun H' => i + 1 ≤ p.1.length ∧ ∃ Z' e' acc outs, Wf K Tb C (wipeG G vs) Z' e' (L2.wipe σ vs) H' ∧ Sb Z1 Z' ∧ (∀ a o, Z' a = some o → nt o = true → nw Z H H' a = some o) ∧ ExS G σ H H' ∧ (∀ u, Z' D = some u → nt u = true → False) ∧ H' D = some (.lst acc) ∧ RVs K Z' outs acc ∧ outs.length ≤ i + 1 ∧
            (fmM (lcItemM vs st mt me) (p.1.drop (i + 1)) e').bind (fun q => .ok (outs ++ q.1, q.2)) = .ok (xs, ef), ?_, ?_⟩
          · rintro H' ⟨h1, h2⟩
            exact ⟨p.1.length - (i + 1), by omega, rfl, h1, h2⟩
          · intro x H3 hyld
            obtain ⟨sm, d, hd2, rv⟩ := hy x H3 hyld
            rw [List.getElem?_eq_getElem hlt] at hd2
            cases hd2
            have x3 := Ex.of_same sm
            have hacc3 : H3 D = some (.lst acc) := sm _ _ hacc
            have w3 := w2.ext x3 (w2.g.tb.ext sm)
            have zz3 : Sb Z2 (nw Z2 H2 H3) := nw_s (w2.g.zh.trans x3.ke)
            have n3 : ∀ a o, nw Z2 H2 H3 a = some o → nt o = true → nw Z H H3 a = some o := fun a o e n => by
              obtain ⟨f1, f2, f3⟩ := nw_of e
              refine nw_mk f1 f2 ?_
              rcases f3 with h | ⟨u, h, hn⟩ | h
              · exact .inl h
              · have h4 := n2 a u h hn
                obtain ⟨q1, q2, q3⟩ := nw_of h4
                have : u = o := by
                  have z := x3.ke a u q1 hn
                  rw [f1] at z
                  exact (Option.some.inj z).symm
                subst this
                exact q3
              · exact .inr (.inr (x2.none w h))
            have zD3 : ∀ u, nw Z2 H2 H3 D = some u → nt u = true → False := fun u e n => by
              obtain ⟨f1, f2, f3⟩ := nw_of e
              rw [hacc3] at f1
              cases f1
              rcases f3 with ⟨xs, z⟩ | ⟨u, z, zn⟩ | z
              · cases z
              · exact zD2 u z zn
              · rw [hacc] at z; cases z
            obtain ⟨po, hit, hr2⟩ := fmM_cons hrest
            unfold lcItemM at hit
            cases hst : st p.1[i] e2 with
            | none => rw [hst] at hit; cases hit
            | some e1 =>
              rw [hst] at hit
              dsimp only at hit
              refine ⟨_, _, _, e1, w3, RV.sb (nw_mono s2) _ _ rv, hst, fun σ' hO w4 => ⟨wipe_same hO hsl, _, e1, w4, ?_⟩⟩
              have wipeEq := wipe_same hO hsl
              have slUp : ∀ a, Slt Gb σ' a → Slt G σ a := fun a z => by
                obtain ⟨j, hj, hs⟩ := z
                obtain ⟨hj2, hnv⟩ := slotsIn.at hGb hj
                refine ⟨j, hj2, ?_⟩
                have h5 := hO.2 j (fun z => hnv (hsl j z))
                rw [wipe_get hnv] at h5
                rw [← h5]
                exact hs
              have sDb : ¬ Slt Gb σ' D := fun z => sD (slUp D z)
              -- what one step keeps
              have step : ∀ {Z4 Z5 H4 H5 : Hp} {e4 : En}, Wf K Tb C Gb Z4 e4 σ' H4 → Go Gb σ' Z4 H4 Z5 H5 → ExS G σ H H4 → (∀ a o, Z4 a = some o → nt o = true → nw Z H H4 a = some o) → (∀ u, Z4 D = some u → nt u = true → False) → H4 D = some (.lst acc) →
                  ExS G σ H H5 ∧ (∀ a o, Z5 a = some o → nt o = true → nw Z H H5 a = some o) ∧ (∀ u, Z5 D = some u → nt u = true → False) ∧ H5 D = some (.lst acc) := fun {Z4 Z5 H4 H5 e4} w4 g x4 n4 z4 a4 => by
                have a5 : H5 D = some (.lst acc) := g.x.ke D _ a4 rfl sDb
                have xs5 : ExS G σ H4 H5 := g.x.up slUp fun a o s ns e t n => g.x.ke a o e n ns
                refine ⟨x4.trans xs5, fun a o e n => ?_, fun u e n => ?_, a5⟩
                · have h6 := g.n a o e n
                  obtain ⟨f1, f2, f3⟩ := nw_of h6
                  refine nw_mk f1 f2 ?_
                  rcases f3 with h | ⟨u, h, hn⟩ | h
                  · exact .inl h
                  · have h7 := n4 a u h hn
                    obtain ⟨q1, q2, q3⟩ := nw_of h7
                    by_cases hs : Slt Gb σ' a
                    · obtain ⟨z, _⟩ := w4.slt hs
                      rw [z] at h
                      cases h
                    · have : u = o := by
                        have z := g.x.ke a u q1 hn hs
                        rw [f1] at z
                        exact (Option.some.inj z).symm
                      subst this
                      exact q3
                  · exact .inr (.inr (x4.none w h))
                · have h6 := g.n D u e n
                  obtain ⟨f1, f2, f3⟩ := nw_of h6
                  rw [a5] at f1
                  cases f1
                  rcases f3 with ⟨xs, z⟩ | ⟨u, z, zn⟩ | z
                  · cases z
                  · exact z4 u z zn
                  · rw [a4] at z; cases z
              have x23 : ExS G σ H H3 := x2.trans (.of x3)
              revert hit
              cases mt e1 with
              | exc x => exact fun h => by cases h
              | bad => exact fun h => by cases h
              | ok pb =>
                obtain ⟨b, eb⟩ := pb
                cases b with
                | false =>
                  intro hit v Z4 H4 g4 w4' r4
                  cases r4
                  have hpo : po = (none, wipeE eb vs) := by
                    have h3 : (R.ok (none, wipeE eb vs) : R (Option Dt × En)) = .ok po := hit
                    exact (R.ok.inj h3).symm
                  subst hpo
                  obtain ⟨k1, k2, k3, k4⟩ := step w4 g4 x23 n3 zD3 hacc3
                  have w5 := w4'.wipe vs hvb
                  rw [hwg, wipeEq] at w5
                  show _ ∧ _
                  exact ⟨hlt, Z4, _, acc, outs, w5, s2.trans (zz3.trans g4.s), k2, k1, k3, k4, RVs.sb (zz3.trans g4.s) _ _ hrv, by omega, hr2⟩
                | true =>
                  intro hit v Z4 H4 g4 w4' r4
                  cases r4
                  obtain ⟨k1, k2, k3, k4⟩ := step w4 g4 x23 n3 zD3 hacc3
                  refine ⟨Z4, eb, w4', ?_⟩
                  revert hit
                  simp only [R.bind, if_true]
                  cases me eb with
                  | exc x => exact fun h => by cases h
                  | bad => exact fun h => by cases h
                  | ok pd =>
                    intro hit y Z5 H5 g5 w5 r5
                    have hpo : po = (some pd.1, wipeE pd.2 vs) := by
                      have h3 : (R.ok (some pd.1, wipeE pd.2 vs) : R (Option Dt × En)) = .ok po := hit
                      exact (R.ok.inj h3).symm
                    subst hpo
                    obtain ⟨j1, j2, j3, j4⟩ := step w4' g5 k1 k2 k3 k4
                    have hal : acc.length < sizeLine := by
                      rw [hrv.len]
                      have := iok.len
                      omega
                    have w6 := w5.wipe vs hvb
                    rw [hwg, wipeEq] at w6
                    have sDw : ¬ Slt (wipeG G vs) (L2.wipe σ vs) D := fun z => by
                      obtain ⟨j, hj, hs⟩ := z
                      have hnv : j ∉ vs := fun z => by
                        have hl : j < G.length := hvl j z
                        have hls : j < σ.length := by
                          have := w1.ls
                          omega
                        rw [wipe_in z hls] at hs
                        cases hs
                      rw [wipeG_get hnv] at hj
                      rw [wipe_get hnv] at hs
                      exact sD ⟨j, hj, hs⟩
                    have w7 := w6.updD (o := .lst (acc ++ [y])) j4 j3 sDw h0 hio
                    have hne : ∀ b, b ≠ D → (upd H5 D (.lst (acc ++ [y]))) b = H5 b := fun b hb => upd_ne hb
                    refine ⟨acc, j4, hal, hlt, Z5, _, acc ++ [y], outs ++ [pd.1], w7, s2.trans (zz3.trans (g4.s.trans g5.s)), fun a o e n => ?_, ⟨fun a o e n s => ?_, fun a ps e => ?_, fun a o s e t n => ?_⟩, j3, upd_same, ?_, by simp; omega, hr2⟩
                    · have hb : a ≠ D := fun z => by subst z; exact j3 o e n
                      obtain ⟨f1, f2, f3⟩ := nw_of (j2 a o e n)
                      exact nw_mk (by rw [hne a hb]; exact f1) f2 f3
                    · rw [hne a (fun z => by subst z; rw [hD0] at e; cases e)]
                      exact j1.ke a o e n s
                    · obtain ⟨ps', e'⟩ := j1.tb a ps e
                      exact ⟨ps', by rw [hne a (fun z => by subst z; rw [hD0] at e; cases e)]; exact e'⟩
                    · obtain ⟨o', e', t', n'⟩ := j1.sl a o s e t n
                      exact ⟨o', by rw [hne a (fun z => by subst z; rw [hD0] at e; cases e)]; exact e', t', n'⟩
                    · exact (RVs.sb (zz3.trans (g4.s.trans g5.s)) _ _ hrv).app (RVs.one r5)
        · left
          have hn : i = p.1.length := by omega
          refine ⟨iok.stop i H2 (s2.trans w2.g.zh) hn, ?_⟩
          rw [List.drop_of_length_le (Nat.le_of_eq hn.symm)] at hrest
          have hx : (outs, e2) = (xs, ef) := by
            have h3 : (R.ok (outs ++ [], e2) : R (List Dt × En)) = .ok (xs, ef) := hrest
            have h4 := R.ok.inj h3
            rw [List.append_nil] at h4
            exact h4
          cases hx
          have w3 := w2.unwipe hv
          obtain ⟨w4, z4⟩ := w3.addZ sD h0 hio zD2
          refine hm (.ref D) (fzA Z2 H2 D) H2 ⟨g1.s.trans (s2.trans z4), fun a o e n => ?_, x2⟩ w4 ⟨D, acc, rfl, ?_, RVs.sb z4 _ _ hrv⟩
          · unfold fzA at e
            split at e
            · rename_i hb
              subst hb
              exact nw_mk e n (.inr (.inr hD0))
            · exact n2 a o e n
          · unfold fzA
            rw [if_pos rfl]
            exact hacc
theorem vm_lc {ifs : List Expr} {scope : Scope} {own : List (Str × Nat)} {sl : List Nat} {mi : En → R (List Dt × En)} {st : Dt → En → Option En} (hc : X.calm = true) (hN : X.N.Nodup) (hi : VIM X Tb C G mi tg iter) (ok : BlkOk X.N X.env.scope scope own)
    (hg : ∀ (s : Shared) (H : Hp) (D : Addr) (cl : List (Str × Addr)) (fp : List Addr), VG (X.blk s H scope (compEnvC scope cl D X.env) fp) Tb C (wipeG G (own.map (·.2))) Gb sl st tg)
    (ht : ∀ (s : Shared) (H : Hp) (D : Addr) (cl : List (Str × Addr)) (fp : List Addr), VTsM (X.blk s H scope (compEnvC scope cl D X.env) fp) Tb C Gb mt ifs)
    (he : ∀ (s : Shared) (H : Hp) (D : Addr) (cl : List (Str × Addr)) (fp : List Addr), VM (X.blk s H scope (compEnvC scope cl D X.env) fp) Tb C Gb me elt)
    (hv : ∀ i ∈ own.map (·.2), G[i]? = some .dead) (hsl : ∀ i ∈ sl, i ∈ own.map (·.2)) (hGb : slotsIn Gb G (own.map (·.2)) = true) (hwg : wipeG Gb (own.map (·.2)) = wipeG G (own.map (·.2))) (hvb : ∀ i ∈ own.map (·.2), i < Gb.length) (hs : ∀ x, foldedSetIterable iter X.env x = pure x := by intro _; rfl) :
    VM X Tb C G (mLC mi (own.map (·.2)) st mt me) (.ListComp elt [⟨tg, iter, ifs, 0⟩] scope pos) :=
  PE.weak (pe_lc (g := tG X.K Tb C (wipeG G (own.map (·.2))) Gb sl st) (tt := tMB X.K Tb C Gb mt) (te := tM X.K Tb C Gb me) hc hN hi ok hg ht he hs) fun σ H Q _ hq => lcm_w hv hsl hGb hwg hvb hq
theorem vs_setLcM (i : Nat) {y : Str} {py spos : Pos} {ifs : List Expr} {scope : Scope} {own : List (Str × Nat)} {sl : List Nat} {mi : En → R (List Dt × En)} {st : Dt → En → Option En} (hc : X.calm = true) (hN : X.N.Nodup) (hi : VIM X Tb C G mi tg iter) (ok : BlkOk X.N X.env.scope scope own)
    (hg : ∀ (s : Shared) (H : Hp) (D : Addr) (cl : List (Str × Addr)) (fp : List Addr), VG (X.blk s H scope (compEnvC scope cl D X.env) fp) Tb C (wipeG G (own.map (·.2))) Gb sl st tg)
    (ht : ∀ (s : Shared) (H : Hp) (D : Addr) (cl : List (Str × Addr)) (fp : List Addr), VTsM (X.blk s H scope (compEnvC scope cl D X.env) fp) Tb C Gb mt ifs)
    (he : ∀ (s : Shared) (H : Hp) (D : Addr) (cl : List (Str × Addr)) (fp : List Addr), VM (X.blk s H scope (compEnvC scope cl D X.env) fp) Tb C Gb me elt)
    (hv : ∀ i ∈ own.map (·.2), G[i]? = some .dead) (hsl : ∀ i ∈ sl, i ∈ own.map (·.2)) (hGb : slotsIn Gb G (own.map (·.2)) = true) (hwg : wipeG Gb (own.map (·.2)) = wipeG G (own.map (·.2))) (hvb : ∀ i ∈ own.map (·.2), i < Gb.length)
    (hsw : swapsWith (.ListComp elt [⟨tg, iter, ifs, 0⟩] scope pos) (some (.Name y py)) spos.line X.env = pure true := by rfl)
    (hy : X.N[i]? = some y := by rfl) (hyl : X.env.scope.names.lookup y = some .local := by rfl) (hlt : i < G.length := by first | decide | exact of_decide_eq_true rfl) (hs : ∀ x, foldedSetIterable iter X.env x = pure x := by intro _; rfl) :
    VS X Tb C E f0 G (G.set i .z) Gl (sSetM i (mLC mi (own.map (·.2)) st mt me)) (.Assign [.Name y py] (.ListComp elt [⟨tg, iter, ifs, 0⟩] scope pos) spos) :=
  PS.weak (ps_setLc (i := i) (g := tG X.K Tb C (wipeG G (own.map (·.2))) Gb sl st) (tt := tMB X.K Tb C Gb mt) (te := tM X.K Tb C Gb me) hc hN hy hyl hsw hi ok hg ht he hs) fun D σ H _ hq => by
    refine lcm_w hv hsl hGb hwg hvb ?_
    exact tM_st hq fun d v Z1 e1 H1 w1 r1 hm => hm _ _ _ (Sb.refl _) (w1.setZ hlt r1)
end
end VL
namespace VL
open PySem PySem.Spec PyProof.Rows L2
section
variable {P : Program} {w : World} {K : Kf} {mg : Str → Option Value} {base : Heap} {Tb : Tbs} {Gd : Around → Prop}
/-- what a def's context gives to the rules -/
structure Bp (Gd : Around → Prop) (X : Cx) (E : XK) (k : Nat) : Prop where
  calm : X.calm = true
  tk : Takes X (fun cls d _ H => E cls d H)
  po : PassesOwn (model X.prog X.w) X.A X.env X.xe
  px : Passes (L2.CX X.prog X.w) X E
  rm : Room k X.A
  gd : Gd X.A
theorem ok_defP {x qual : Str} {params : Arguments} {body : List Stmt} {scope : Scope} {f : Addr} {fd : FuncData} {N ps : List Str} {k n l : Nat} {f0 : Fl} {G' Lp : List SM} {m : List Dt → R Dt} {mb : En → RS} (gdo : GdOk Gd) (F : FunD K x qual params body scope [] [] f fd) (S : FnScope N ps scope)
    (hn : ps.length = n) (hN : N.length = n + l) (hf : f0.t? = false) (hm : ∀ ds, m ds = fin (mb (entE ds l))) (hnx : f0 = .own → ∀ e e', mb e ≠ .nx e')
    (hb : ∀ (cdv : Value) (A : Around) (outer : List Env) (s : Shared) (H S : Hp) (E : XK), CdOk K f qual cdv → Bp Gd (cxOf (L2.CX P w) P w K mg base N qual scope f cdv A outer s H E) E k → VSs (cxOf (L2.CX P w) P w K mg base N qual scope f cdv A outer s H E) Tb ⟨H, S, none⟩ E f0 (entG n l) G' Lp mb body) :
    FnP Gd P w K mg base (k + 1) f fd ps (spF K Tb f0 n m) := by
  refine fnP_of gdo F S (fun vs H Q E h => ?_) (fun cdv A outer s H vs Q E hcd hr hg h => ?_)
  · obtain ⟨ds, S, h1, h2, _⟩ := h
    rw [h2.len, h1, hn]
  · obtain ⟨ds, Z0, h1, h2, h3, h4, h5⟩ := h
    refine ⟨_, hb cdv A outer s H Z0 E hcd ⟨rfl, takes_of rfl rfl rfl rfl, passes_of rfl, passes_call (takes_of rfl rfl rfl rfl) (fun _ _ _ _ h => h), hr, hg⟩, ?_⟩
    refine ⟨Z0, entE ds l, wf_start h1 hN h2 h3 h4, ?_⟩
    rw [hm] at h5
    revert h5
    cases hms : mb (entE ds l) with
    | nx e' =>
      intro h5 σ' Z' H' _ w'
      refine h5 .non H' w'.g.ex w'.g.tb ?_
      cases f0 with
      | z => rfl
      | t => cases hf
      | own => exact (hnx rfl _ _ hms).elim
    | bk e' => exact fun h5 => h5.elim
    | ct e' => exact fun h5 => h5.elim
    | rt d e' => exact fun h5 v Z' H' g _ r => h5 v H' g.ex g.tb (r.out g hf)
    | exc y => exact fun h5 dx Z' H' g a => h5 dx H' g.ex g.tb a
    | bad => exact fun h5 => h5
/-! ### a def that changes its first argument -/
def ioG (n k : Nat) : List SM := .io :: entG n k
def ioE (d0 : Dt) (ds : List Dt) (k : Nat) : En := d0 :: entE ds k
def finM (r : RS) : R (Dt × Dt) := match r with
  | .nx e => .ok (.none, e.getD 0 .none)
  | .rt d e => .ok (d, e.getD 0 .none)
  | _ => .bad
theorem wf_startM {H S : Hp} {a : Addr} {d0 : Dt} {ds : List Dt} {vs : List V} {N : List Str} {n k : Nat} (hn : ds.length = n) (hN : N.length = n + 1 + k) (o : OwnAt K S H d0 a) (sa : S a = none) (r : RVs K S ds vs) (s : Sb S H) (tb : LamX.Tabs Tb H) :
    Wf K Tb ⟨H, S, some a⟩ (ioG n k) S (ioE d0 ds k) (L2.start N (.ref a :: vs)) H where
  g := ⟨s, Sb.refl _, fun a o h _ => .inl h, fun a o h _ _ => h, fun a ps h => ⟨ps, h⟩, fun b (h : some a = some b) => by
    cases h
    obtain ⟨oo, e1, e2, e3, _⟩ := o.obj
    exact ⟨by show H a ≠ none; rw [e1]; simp, sa, oo, e1, e2, e3⟩, tb⟩
  sl := fun i m hm => by
    have hvl := r.len
    unfold L2.start ioE
    cases i with
    | zero =>
      cases hm
      exact ⟨some (.ref a), rfl, a, rfl, o, rfl⟩
    | succ i =>
      have hm : (entG n k)[i]? = some m := hm
      have hr : N.length - (V.ref a :: vs).length = k := by simp only [List.length_cons]; omega
      rw [hr]
      unfold entE
      rcases entG_get hm with ⟨hi, rfl⟩ | ⟨hi, h2, rfl⟩
      · have hd : ds[i]? = some ds[i] := List.getElem?_eq_getElem (by omega)
        obtain ⟨v, e1, e2⟩ := r.get hd
        refine ⟨some v, ?_, v, rfl, ?_⟩
        · rw [List.map_cons, List.cons_append, List.getElem?_cons_succ, List.getElem?_append_left (by simp; omega), List.getElem?_map, e1]
          rfl
        · rw [List.getD_cons_succ, List.getD_eq_getElem?_getD, List.getElem?_append_left (by omega), hd]
          exact e2
      · refine ⟨none, ?_, trivial⟩
        rw [List.map_cons, List.cons_append, List.getElem?_cons_succ, List.getElem?_append_right (by simp; omega), List.getElem?_replicate]
        simp
        omega
  ap := fun i j b _ h => by
    cases i with
    | zero => cases h
    | succ i =>
      have h : (entG n k)[i]? = some .own := h
      rcases entG_get h with ⟨_, h⟩ | ⟨_, _, h⟩ <;> cases h
  le := by unfold ioE ioG entE entG; simp [hn]
  ls := by
    have hvl := r.len
    unfold L2.start ioG entG
    simp
    omega
theorem ok_defIo {x qual : Str} {params : Arguments} {body : List Stmt} {scope : Scope} {f : Addr} {fd : FuncData} {N ps : List Str} {k n l : Nat} {G' Lp : List SM} {m : Dt → List Dt → R (Dt × Dt)} {mb : En → RS} (gdo : GdOk Gd) (F : FunD K x qual params body scope [] [] f fd) (S : FnScope N ps scope)
    (hn : ps.length = n + 1) (hN : N.length = n + 1 + l) (hm : ∀ d0 ds, m d0 ds = finM (mb (ioE d0 ds l))) (hG : G'[0]? = some .io)
    (hb : ∀ (cdv : Value) (A : Around) (outer : List Env) (s : Shared) (H S : Hp) (a : Addr) (E : XK), CdOk K f qual cdv → Bp Gd (cxOf (L2.CX P w) P w K mg base N qual scope f cdv A outer s H E) E k → VSs (cxOf (L2.CX P w) P w K mg base N qual scope f cdv A outer s H E) Tb ⟨H, S, some a⟩ E .z (ioG n l) G' Lp mb body) :
    FnP Gd P w K mg base (k + 1) f fd ps (spM K Tb n m) := by
  refine fnP_of gdo F S (fun vs H Q E h => ?_) (fun cdv A outer s H vs Q E hcd hr hg h => ?_)
  · obtain ⟨a, ws, d0, ds, S, rfl, h1, _, _, h2, _⟩ := h
    rw [List.length_cons, h2.len, h1, hn]
  · obtain ⟨a, ws, d0, ds, Z0, rfl, h1, o, sa, h2, h3, h4, h5⟩ := h
    refine ⟨_, hb cdv A outer s H Z0 a E hcd ⟨rfl, takes_of rfl rfl rfl rfl, passes_of rfl, passes_call (takes_of rfl rfl rfl rfl) (fun _ _ _ _ h => h), hr, hg⟩, ?_⟩
    refine ⟨Z0, ioE d0 ds l, wf_startM h1 hN o sa h2 h3 h4, ?_⟩
    rw [hm] at h5
    have key : ∀ {Z' H' : Hp}, WfG Tb ⟨H, Z0, some a⟩ Z' H' → ExA a H H' ∧ Sb Z' (nw Z0 H H') := fun {Z' H'} g => by
      refine ⟨⟨fun b u hb e n => g.ke b u e n (fun z => hb (Option.some.inj z).symm), g.kt⟩, fun b u e n => nw_mk (g.zh b u e n) n ?_⟩
      rcases g.fr b u e n with h | h | h
      · exact .inr (.inl ⟨u, h, n⟩)
      · exact .inr (.inr h)
      · exact .inl h
    revert h5
    cases hms : mb (ioE d0 ds l) with
    | nx e' =>
      intro h5 σ' Z' H' _ w'
      obtain ⟨x1, s1⟩ := key w'.g
      obtain ⟨ov, q1, b, q2, q3, q4⟩ := w'.sl 0 _ hG
      cases q4
      exact h5 .non H' x1 w'.g.tb (q3.mono s1 fun _ q _ => q) rfl
    | bk e' => exact fun h5 => h5.elim
    | ct e' => exact fun h5 => h5.elim
    | rt d e' =>
      intro h5 v Z' H' g i r
      obtain ⟨x1, s1⟩ := key g
      exact h5 v H' x1 g.tb ((i a rfl).mono s1 fun _ q _ => q) (RV.sb s1 _ _ r)
    | exc y => exact fun h5 => h5.elim
    | bad => exact fun h5 => h5.elim
end
/-! ### repr -/
section
variable {X : Cx} {K : Kf}
def shOk (d : Dt) : Bool := SeqAt.shaped d && d.showable && decide (d.depth ≤ 60) && decide (d.shown.length ≤ sizeLine)
def repD : List Dt → Option Dt
  | [d] => if shOk d = true then some (.str d.shown) else none
  | _ => none
def rRep1 (K : Kf) : List V → Hp → VK → Prop := fun xs H Q => ∃ (x : V) (d : Dt), xs = [x] ∧ Dp K H x d ∧ shOk d = true ∧ Q (.str d.shown) H
theorem call_repr (hg : X.A.guards = some []) (hu : X.A.units + 64 < cLine) : CallR X (.builtin "repr") (rRep1 X.K) := by
  intro pins s σ H xs us Q I r h
  obtain ⟨x, d, rfl, hd, ok, q⟩ := h
  obtain ⟨u, rfl, ru⟩ := vals1 r
  obtain ⟨as, hr⟩ := Dp.reads I d x u hd ru
  unfold shOk at ok
  simp only [Bool.and_eq_true, decide_eq_true_eq] at ok
  obtain ⟨⟨⟨o1, o2⟩, o3⟩, o4⟩ := ok
  have hnd := PyData.noDict_hsm (as := as) (PyData.hasDict_of_canLay d (SeqAt.canLay_of_shaped o1))
  have fin : ∀ h' u' tk, (∀ b o, s.heap.get? b = some o → h'.get? b = some o) → EP X pins σ Q (.str d.shown u') { s with heap := h', toks := tk } := fun h' u' tk hk => ⟨.str d.shown, H, I.kept hk, ⟨_, rfl⟩, q⟩
  cases hd with
  | non => cases ru; exact PySem.P.repr_of_none (fin _ _ _ fun _ _ e => e)
  | bl b => cases ru; exact PySem.P.repr_of_bool (fin _ _ _ fun _ _ e => e)
  | int i =>
    obtain ⟨t, rfl⟩ := ru
    exact PySem.P.repr_of_int (by simpa [PyData.showable] using o2) (fin _ _ _ fun _ _ e => e)
  | str z =>
    obtain ⟨t, rfl⟩ := ru
    exact PySem.P.repr_of_str (fin _ _ _ fun _ _ e => e) (hsz := o4)
  | lst h1 h2 =>
    cases ru
    exact repr_of_reads' hr o2 hnd hg (by omega) (fun _ _ e => e) fin o4
  | tup h1 h2 =>
    cases ru
    exact repr_of_reads' hr o2 hnd hg (by omega) (fun _ _ e => e) fin o4
theorem repD_ok : CallD K .z repD (rRep1 K) := fun S H ds vs d Q fit s r e k => by
  unfold repD at e
  split at e
  · split at e
    · rename_i dd hok
      cases e
      obtain ⟨y, ys, rfl, h2, h3⟩ := r
      cases h3
      have h4 : SeqAt.shaped dd = true := by
        unfold shOk at hok
        simp only [Bool.and_eq_true] at hok
        exact hok.1.1.1
      exact ⟨y, dd, rfl, RV.dp s _ _ (noDict_of _ (SeqAt.canLay_of_shaped h4)) h2, hok, k _ H (Same.refl _) rfl⟩
    · cases e
  · cases e
end
end VL
namespace VL
open PySem PySem.Spec PyProof.Rows L2
section
variable {X : Cx} {K : Kf} {Tb : Tbs} {C : Cn} {E : XK} {G G1 G' G2 Gl : List SM} {fl fa fb f0 : Fl} {pos : Pos}
/-! ### the ground moved up -/
theorem Wf.keepZ {Z H H' : Hp} {en : En} {σ : L2.St} (w : Wf K Tb C G Z en σ H) (x : Ex H H') (tb : LamX.Tabs Tb H') : Wf K Tb C G Z en σ H' where
  g := ⟨w.g.zh.trans x.ke, w.g.zz, w.g.fr, fun a o e n hi => x.ke a o (w.g.ke a o e n hi) n, fun a ps e => by
    obtain ⟨p, e1⟩ := w.g.kt a ps e
    exact x.tb a p e1, fun a ha => by
    obtain ⟨k1, k2, o, k3, k4, k5⟩ := w.g.ih a ha
    exact ⟨k1, k2, o, x.ke a o k3 k5, k4, k5⟩, tb⟩
  sl := fun i m hm => by
    obtain ⟨ov, k1, k2⟩ := w.sl i m hm
    refine ⟨ov, k1, ?_⟩
    cases m with
    | dead => exact trivial
    | z => exact k2
    | ptr b => exact k2
    | own =>
      obtain ⟨b, k3, k4, k5, k6⟩ := k2
      exact ⟨b, k3, k4.mono (Sb.refl _) (fun o e n => x.ke b o e n), k5, k6⟩
    | io =>
      obtain ⟨b, k3, k4, k5⟩ := k2
      exact ⟨b, k3, k4.mono (Sb.refl _) (fun o e n => x.ke b o e n), k5⟩
  ap := w.ap
  le := w.le
  ls := w.ls
def Cn.up (C : Cn) (Z : Hp) : Cn := ⟨C.H0, Z, C.io⟩
theorem Wf.up {Z H : Hp} {en : En} {σ : L2.St} (w : Wf K Tb C G Z en σ H) : Wf K Tb (C.up Z) G Z en σ H :=
  ⟨⟨w.g.zh, Sb.refl _, fun a o e _ => .inl e, w.g.ke, w.g.kt, w.g.ih, w.g.tb⟩, fun i m hm => by
    obtain ⟨ov, k1, k2⟩ := w.sl i m hm
    refine ⟨ov, k1, ?_⟩
    cases m <;> exact k2, w.ap, w.le, w.ls⟩
theorem WfG.down {Z Z' H H' : Hp} (g0 : WfG Tb C Z H) (g : WfG Tb (C.up Z) Z' H') : WfG Tb C Z' H' :=
  ⟨g.zh, g0.zz.trans g.zz, fun a o e n => by
    rcases g.fr a o e n with h | h | h
    · exact g0.fr a o h n
    · exact .inr (.inl h)
    · exact .inr (.inr h), g.ke, g.kt, g.ih, g.tb⟩
theorem Wf.down {Z Z' H H' : Hp} {en : En} {σ : L2.St} (g0 : WfG Tb C Z H) (w : Wf K Tb (C.up Z) G Z' en σ H') : Wf K Tb C G Z' en σ H' :=
  ⟨g0.down w.g, fun i m hm => by
    obtain ⟨ov, k1, k2⟩ := w.sl i m hm
    refine ⟨ov, k1, ?_⟩
    cases m <;> exact k2, w.ap, w.le, w.ls⟩
/-! ### try: .. except x as n: .. -/
def Known (cat : Str → Option Bool) (x : Ec) : Prop := cat x.cls = some true
def sTry (cat : Str → Option Bool) (L i : Nat) (mb : En → RS) (ms : Ec → En → RS) : En → RS := fun e => match mb e with
  | .exc x => match cat x.cls with
    | some true => match ms x (List.replicate L .none) with
      | .nx e' => .nx (e'.set i .none)
      | .rt d e' => .rt d e'
      | _ => .bad
    | _ => .bad
  | r => r
theorem wf_dead {Z H : Hp} {σ : L2.St} {L : Nat} (g : WfG Tb C Z H) (hl : σ.length = L) : Wf K Tb C (List.replicate L .dead) Z (List.replicate L .none) σ H where
  g := g
  sl := fun i m hm => by
    rw [List.getElem?_replicate] at hm
    split at hm
    · rename_i h
      cases hm
      exact ⟨σ[i]'(by omega), List.getElem?_eq_getElem (by omega), trivial⟩
    · cases hm
  ap := fun i j a _ h => by
    rw [List.getElem?_replicate] at h
    split at h <;> cases h
  le := by simp
  ls := by simp [hl]
theorem vs_tryAs (i : Nat) {x n : Str} {c : Value} {body suite : List Stmt} {b₀ : Stmt} {np pos' : Pos} {mb : En → RS} {ms : Ec → En → RS} {cat : Str → Option Bool} {L : Nat}
    (hs : X.stack = X.env :: X.outer) (hf : X.env.frame = some X.env.locals) (hN : X.N.Nodup) (hi : X.N[i]? = some n) (hln : X.env.kindOf n = some .local) (hc : Names X x c) (hL : X.N.length = L) (hio : C.io = none)
    (hcat : ∀ s b, cat s = some b → PySem.W.exmOne X.K (.ref (He.ga X.K s)) c = some b)
    (hb : ∀ (W : WX) (pn : List (Addr × Obj)) (xe : Value → Shared → Prop) (E : XK) (C' : Cn), C'.H0 = C.H0 → C'.io = none → Sb C.Z0 C'.Z0 → Takes (X.tr pn xe) W → (∀ cls d σ' H', E cls d H' → W cls d σ' H') → PassesOwn (model X.prog X.w) X.A X.env xe → VSs (X.tr pn xe) Tb C' E .z G G' Gl mb body)
    (hsu : ∀ (x : Ec) (a : Addr) (oe : Obj) (pn : List (Addr × Obj)) (C' : Cn), Known cat x → C'.io = none → Zc (.ref (He.ga X.K x.cls)) none oe → (∃ vs, oe.data = .fields vs) → VSs (X.suite a ((a, oe) :: pn)) Tb C' E00 .z ((List.replicate L .dead).set i (.ptr a)) (G2.set i (.ptr a)) Gl (ms x) (b₀ :: suite))
    (hG : G2.set i .dead = G') (hG2 : i < G2.length) : VS X Tb C E00 .z G G' Gl (sTry cat L i mb ms) (.Try body [.ExceptHandler (some (.Name x np)) (some n) (b₀ :: suite) pos'] [] [] pos) := by
  have hx := ps_try_as (X := X) (x := x) (n := n) (c := c) (i := i) (body := body) (suite := suite) (b₀ := b₀) (np := np) (pos := pos) (pos' := pos')
    (tb := fun W D σ H => ∃ (E : XK) (C' : Cn), C'.H0 = C.H0 ∧ C'.io = none ∧ Sb C.Z0 C'.Z0 ∧ (∀ cls d σ' H', E cls d H' → W cls d σ' H') ∧ tS X.K Tb C' E .z G G' Gl mb D σ H)
    (ts := fun a cls d D σ H => ∃ (x : Ec) (C' : Cn), C'.io = none ∧ cls = .ref (He.ga X.K x.cls) ∧ d = none ∧ Known cat x ∧ (σ.length = X.N.length → tS X.K Tb C' E00 .z ((List.replicate L .dead).set i (.ptr a)) (G2.set i (.ptr a)) Gl (ms x) D σ H))
    hs hf hN hi hln hc LamX.takes0 (fun W pn xe tk po => ⟨fun pins s σ H D I h => ?_⟩) (fun a oe cls d pn hz hd => ⟨fun pins s σ H D I h => ?_⟩)
  · refine PS.weak hx fun D σ H _ hq => ?_
    obtain ⟨Z, en, w, hm⟩ := hq
    unfold sTry at hm
    refine ⟨fun cls d H' => ∀ σ', wAs X.K c i (fun a cls d D σ H => ∃ (x : Ec) (C' : Cn), C'.io = none ∧ cls = .ref (He.ga X.K x.cls) ∧ d = none ∧ Known cat x ∧ (σ.length = X.N.length → tS X.K Tb C' E00 .z ((List.replicate L .dead).set i (.ptr a)) (G2.set i (.ptr a)) Gl (ms x) D σ H)) (fun _ _ _ _ => False) D cls d σ' H', C.up Z, rfl, hio, w.g.zz, fun cls d σ' H' h => h σ', Z, en, w.up, ?_⟩
    revert hm
    cases hmb : mb en with
    | nx e' => exact fun hm σ' Z' H' s' w' => hm σ' Z' H' s' (w'.down w.g)
    | bk e' => exact fun hm σ' Z' H' s' w' => hm σ' Z' H' s' (w'.down w.g)
    | ct e' => exact fun hm σ' Z' H' s' w' => hm σ' Z' H' s' (w'.down w.g)
    | rt d e' => exact fun hm v Z' H' g io r => hm v Z' H' (w.g.down g) (fun a ha => by rw [hio] at ha; cases ha) r
    | bad => exact fun hm => hm
    | exc y =>
      dsimp only
      cases hcy : cat y.cls with
      | none => exact fun hm => hm.elim
      | some bb =>
        cases bb with
        | false => exact fun hm => hm.elim
        | true =>
          dsimp only
          intro hm dx Z' H' g hex σ'
          refine ⟨true, hcat _ _ hcy, fun _ a na => ⟨y, C.up Z, hio, rfl, hex.2, hcy, fun hl => ?_⟩, fun h => by cases h⟩
          have hl2 : σ'.length = L := by
            rw [← hL, ← hl]
            simp
          have hiL : i < L := by
            rw [← hL]
            exact (List.getElem?_eq_some_iff.mp hi).1
          have wd : Wf X.K Tb (C.up Z) (List.replicate L .dead) Z' (List.replicate L .none) σ' H' := wf_dead g hl2
          have w2 : Wf X.K Tb (C.up Z) ((List.replicate L .dead).set i (.ptr a)) Z' ((List.replicate L .none).set i .none) (σ'.set i (some (.ref a))) H' := wd.setM (m0 := .ptr a) (by simpa using hiL) rfl fun z => by cases z
          have e0 : (List.replicate L PyData.none).set i .none = List.replicate L PyData.none := by
            apply List.ext_getElem?
            intro j
            by_cases hj : i = j
            · subst hj
              rw [List.getElem?_set_self (by simpa using hiL), List.getElem?_replicate, if_pos hiL]
            · rw [List.getElem?_set_ne hj]
          rw [e0] at w2
          refine ⟨Z', _, w2, ?_⟩
          revert hm
          cases ms y (List.replicate L .none) with
          | nx e' =>
            intro hm σ2 Z2 H2 s2 w3
            have hl3 := w3.ls
            have w4 := (w3.down w.g).setD (i := i) (by simpa using hG2)
            rw [List.set_set, hG] at w4
            exact hm _ Z2 H2 (g.zz.trans s2) w4
          | bk e' => exact fun hm => hm.elim
          | ct e' => exact fun hm => hm.elim
          | rt d e' => exact fun hm v Z2 H2 g2 io r => hm v Z2 H2 (w.g.down g2) (fun a ha => by rw [hio] at ha; cases ha) r
          | exc z => exact fun hm => hm.elim
          | bad => exact fun hm => hm.elim
  · obtain ⟨E, C', h1, h2, h3, h4, h5⟩ := h
    exact (hb W pn xe E C' h1 h2 h3 tk h4 po).run pins s σ H D I h5
  · obtain ⟨y, C', h1, rfl, rfl, h4, h5⟩ := h
    exact (hsu y a oe pn C' h4 h1 hz hd).run pins s σ H D I (h5 I.len)
end
end VL
namespace VL
open PySem PySem.Spec PyProof.Rows L2
section
variable {X : Cx} {pins : List (Addr × Obj)} {σ : L2.St} {H : Hp} {s : Shared} {Tb : Tbs}
/-- a lambda is made: nothing of what is tracked goes -/
theorem lam_mk {c P : Addr} {params : Arguments} {body : Expr} {scope : Scope} {pos : Pos} {E : Value → Shared → Prop} {Q : Value → Shared → Prop} (I : Inv X pins σ H s) (TB : LamX.TabB X.base X.mg c P) (hcode : X.env.code = .ref c)
    (hm : (P, X.env.qual ++ "<lambda>") ∈ Tb) (hu : ∀ p ∈ Tb, p.1 = P → p.2 = X.env.qual ++ "<lambda>") (hT : LamX.Tabs Tb H) (hdef : defaultsOf params X.env = ([], [])) (hfree : ∀ y ∈ scope.names, y.2 = .free → ∃ c, X.env.cells.lookup y.1 = some c)
    (h : ∀ (f c' : Addr) (pm ctv : Value) (H1 : Hp) (s' : Shared), Inv X pins σ H1 s' → Ex H H1 → LamX.Tabs Tb H1 →
      s'.heap.get? f = some (PySem.W.kla_obj "<lambda>" (X.env.qual ++ "<lambda>") params body scope (cloFrom X.env.cells scope.names []) pm c' ctv) → H1 f = none → f ∉ frs X.stack → H1 c' = some (LamX.CodeO c' (X.env.qual ++ "<lambda>")) → Q (.ref f) s') :
    wpAny (model X.prog X.w) X.A (eval (.Lambda params body scope pos) X.env) Q E s := by
  obtain ⟨ps, hP, ht, ha⟩ := hT _ hm
  have bP : s.heap.BuiltinsAt X.mg P := TB.bm.keeps I.bk
  have hP' : s.heap.get? P = some { cls := .none, data := .fields ps } := I.hok P _ hP
  have nofr : ∀ f, s.heap.objs.size ≤ f → f ∉ frs X.stack := fun f hf z => by
    rcases List.mem_cons.mp (I.stkSub _ z) with e | e
    · have h1 := I.lt
      rw [← e] at h1
      exact Nat.lt_irrefl _ (Nat.lt_of_lt_of_le h1 hf)
    · exact I.nofs hf e
  refine PySem.W.kla_eval hdef ?_
  cases hc : codeAmong pos ps.toList with
  | some cv =>
    obtain ⟨c', e, hco⟩ := ha pos cv hc
    subst e
    refine PySem.W.kla_makeFunctionHit (mg := X.mg) (c := c) (P := P) (ps := ps) (closure_ok hfree) I.ok.glob (I.mod.glob.keeps I.bk) hcode (TB.code.keeps I.bk) hP' ht hc bP fun ctv h' tk hx hsz => ?_
    exact h h'.objs.size c' ((X.mg "__name__").getD .none) ctv H _ (I.kept fun b o e => Heap.get?_push_of_some _ (hx b o e)) (Ex.refl H) hT (Heap.get?_push_size _ rfl) (I.hok.fresh hsz) (nofr _ hsz) hco
  | none =>
    refine PySem.W.kla_makeFunction (mg := X.mg) (c := c) (P := P) (ps := ps) (closure_ok hfree) I.ok.glob (I.mod.glob.keeps I.bk) hcode (TB.code.keeps I.bk) hP' ht hc TB.gP bP fun c' ctv h' tk hx hge hlt hrec htb => ?_
    obtain ⟨c2, oc, vs, t, e2, hoc, hd, hv⟩ := hrec
    cases e2
    have hsz : s.heap.objs.size ≤ h'.objs.size := Nat.le_trans hge (Nat.le_of_lt hlt)
    have nC : H c' = none := I.hok.fresh hge
    have nPc : P ≠ c' := ne_of_none hP nC
    have I1 := LamX.inv_table (t' := tk) (more := #[rawInt pos.line, rawInt pos.col, .ref c']) (h' := h'.push (PySem.W.kla_obj "<lambda>" (X.env.qual ++ "<lambda>") params body scope (cloFrom X.env.cells scope.names []) ((X.mg "__name__").getD .none) c' ctv)) I hP
      (fun b o hb e => Heap.get?_push_of_some _ (hx b o hb e)) (Heap.get?_push_of_some _ htb) hge ⟨oc, vs, t, Heap.get?_push_of_some _ hoc, hd, hv⟩
    have at1 : upd (upd H P (.tbl (ps ++ #[rawInt pos.line, rawInt pos.col, .ref c']))) c' (LamX.CodeO c' (X.env.qual ++ "<lambda>")) P = some (.tbl (ps ++ #[rawInt pos.line, rawInt pos.col, .ref c'])) := by rw [upd_ne nPc, upd_same]
    have oth : ∀ b o, H b = some o → b ≠ P → upd (upd H P (.tbl (ps ++ #[rawInt pos.line, rawInt pos.col, .ref c']))) c' (LamX.CodeO c' (X.env.qual ++ "<lambda>")) b = some o := fun b o e hb => by
      rw [upd_ne (ne_of_none e nC), upd_ne hb]
      exact e
    have nB : ∀ b o, H b = some o → nt o = true → b ≠ P := fun b o e n z => by
      subst z
      have e2 : some o = some (.tbl ps) := e.symm.trans hP
      cases e2
      cases n
    have hE : Ex H (upd (upd H P (.tbl (ps ++ #[rawInt pos.line, rawInt pos.col, .ref c']))) c' (LamX.CodeO c' (X.env.qual ++ "<lambda>"))) := by
      refine ⟨fun b o e n => oth b o e (nB b o e n), fun b qs e => ?_⟩
      by_cases hb : b = P
      · subst hb
        exact ⟨_, at1⟩
      · exact ⟨qs, oth b _ e hb⟩
    have eL : (ps ++ #[rawInt pos.line, rawInt pos.col, .ref c']).toList = ps.toList ++ [rawInt pos.line, rawInt pos.col, .ref c'] := by simp
    have n1 : h'.objs.size ≠ c' := Nat.ne_of_gt hlt
    have n2 : h'.objs.size ≠ P := Nat.ne_of_gt (Nat.lt_of_lt_of_le (Heap.lt_size hP') hsz)
    refine h h'.objs.size c' ((X.mg "__name__").getD .none) ctv _ _ I1 hE (fun p hp => ?_) (Heap.get?_push_size _ rfl) (by rw [upd_ne n1, upd_ne n2]; exact I.hok.fresh hsz) (nofr _ hsz) upd_same
    by_cases hb : p.1 = P
    · rw [hu p hp hb, hb]
      refine ⟨_, at1, by rw [eL]; exact PySem.TriplesOk_snoc _ _ _ _ ht, fun p' cv hcv => ?_⟩
      rw [eL] at hcv
      rcases LamX.among_app _ ht hcv with z | z
      · obtain ⟨c0, e1, e2⟩ := ha p' cv z
        exact ⟨c0, e1, hE.ke _ _ e2 rfl⟩
      · exact ⟨c', z, upd_same⟩
    · obtain ⟨qs, a1, a2, a3⟩ := hT p hp
      refine ⟨qs, oth _ _ a1 hb, a2, fun p' cv hcv => ?_⟩
      obtain ⟨c0, e1, e2⟩ := a3 p' cv hcv
      exact ⟨c0, e1, hE.ke _ _ e2 rfl⟩
end
/-! ### a def that calls what it got -/
def TTw (K : Kf) (Tb : Tbs) (mw : R Dt → R Dt) : (XK → Hp → VK → Prop) → Hp → VK → Prop := fun tl H Q => ∃ (r : R Dt) (S : Hp), Sb S H ∧ LamX.Tabs Tb H ∧
  (∀ (E : XK) (H' : Hp) (Q' : VK), Ex H H' → LamX.Tabs Tb H' → (match r with
    | .ok d => ∀ v H'', Ex H' H'' → LamX.Tabs Tb H'' → RV K (nw S H' H'') d v → Q' v H''
    | .exc x => EXC K Tb E H' x
    | .bad => False) → tl E H' Q') ∧ match mw r with
    | .ok d => ∀ v H', Ex H H' → LamX.Tabs Tb H' → RV K (nw S H H') d v → Q v H'
    | _ => False
section
variable {X : Cx} {Tb : Tbs}
abbrev gx (X : Cx) (Ng : List Str) (x : Str) (sg : Scope) (g : Addr) (cdg : Value) (s : Shared) (H : Hp) : Cx := cxOf C8.CX0 X.prog X.w X.K X.mg X.base Ng x sg g cdg X.A X.stack s H C8.E0
theorem gives_said {Ng : List Str} {x a q : Str} {sg : Scope} {g : Addr} {cdg : Value} {bg : List Stmt} {l : Nat} {G' Lp : List SM} {mb : R Dt → En → RS} {mw : R Dt → R Dt} (hm : ∀ r, mw r = fin (mb r (List.replicate (l + 1) .none))) (hNl : Ng.length = l + 1)
    (hb : ∀ (f c' : Addr) (s : Shared) (H S : Hp) (r : R Dt), (∀ (W : WX) (pn : List (Addr × Obj)) (xe : Value → Shared → Prop) (E : XK) (C' : Cn) (G : List SM) (p1 p2 : Pos), C'.H0 = H → C'.io = none → Sb S C'.Z0 → Takes ((gx X Ng x sg g cdg s H).tr pn xe) W → (∀ cls d σ' H', E cls d H' → W cls d σ' H') → G[0]? = some (.ptr f) →
        VQ ((gx X Ng x sg g cdg s H).tr pn xe) Tb C' E G .z (fun _ => r) (.Call (.Name a p1) [] [] p2)) →
      VSs (gx X Ng x sg g cdg s H).nox Tb ⟨H, S, none⟩ E00 .z (.ptr f :: List.replicate l .dead) G' Lp (mb r) bg) : LamX.GivesTo X Ng x sg g cdg bg a q (TTw X.K Tb mw) := by
  intro f c' s H Q tl act hco hT
  obtain ⟨r, S, h1, h2, h3, h4⟩ := hT
  refine ⟨_, hb f c' s H S r (fun W pn xe E C' G p1 p2 e1 e2 e3 tk hW hG => ?_), ?_⟩
  · refine PE.weak (act W pn xe E p1 p2 tk hW) fun σ HZ Q hf hq => ?_
    obtain ⟨Z, en, w, hm⟩ := hq
    obtain ⟨ov, k1, k2⟩ := w.sl 0 _ hG
    have k2 : ov = some (.ref f) := k2
    subst k2
    have hx : Ex H HZ := ⟨fun b o e n => w.g.ke b o (by rw [e1]; exact e) n (by rw [e2]; intro z; cases z), fun b ps e => w.g.kt b ps (by rw [e1]; exact e)⟩
    refine ⟨k1, hx.ke _ _ hco rfl, h3 E HZ Q hx w.g.tb ?_⟩
    revert hm
    cases r with
    | ok d => exact fun hm v H'' x t o => hm v H'' x t (RV.sb (nw_mono (e3.trans w.g.zz)) _ _ o)
    | exc y => exact fun hm => hm
    | bad => exact fun hm => hm
  · refine ⟨S, List.replicate (l + 1) .none, ?_, ?_⟩
    · have hst : (L2.start Ng [V.ref f]) = (List.replicate (l + 1) (none : Option V)).set 0 (some (.ref f)) := by
        unfold L2.start
        rw [hNl]
        rfl
      have wd : Wf X.K Tb ⟨H, S, none⟩ (List.replicate (l + 1) .dead) S (List.replicate (l + 1) .none) (List.replicate (l + 1) (none : Option V)) H :=
        wf_dead ⟨h1, Sb.refl _, fun a o h _ => .inl h, fun a o h _ _ => h, fun a ps h => ⟨ps, h⟩, fun a (h : (none : Option Addr) = some a) => (nomatch h), h2⟩ (by simp)
      have w2 := wd.setM (i := 0) (m0 := .ptr f) (d := .none) (ov := some (.ref f)) (by simp) rfl fun z => by cases z
      rw [hst]
      exact w2
    · rw [hm] at h4
      revert h4
      cases hms : mb r (List.replicate (l + 1) .none) with
      | nx e' => exact fun h5 σ' Z' H' _ w' => h5 .non H' w'.g.ex w'.g.tb rfl
      | bk e' => exact fun h5 => h5.elim
      | ct e' => exact fun h5 => h5.elim
      | rt d e' => exact fun h5 v Z' H' g _ r => h5 v H' g.ex g.tb (r.out g rfl)
      | exc y => exact fun h5 => h5.elim
      | bad => exact fun h5 => h5
/-- x(lambda: body) -/
def qLam (mw : R Dt → R Dt) (mb : En → R Dt) : En → R Dt := fun e => match mw (mb e) with
  | .ok d => .ok d
  | _ => .bad
theorem vq_lam {C : Cn} {E : XK} {G : List SM} {x a : Str} {g c P : Addr} {k : Nat} {pg : Arguments} {bg : List Stmt} {sg : Scope} {fd : FuncData} {Ng : List Str} {params : Arguments} {body : Expr} {scope : Scope} {mw : R Dt → R Dt} {mb : En → R Dt} {p lpos pos : Pos} (F : FunD X.K x x pg bg sg [] [] g fd) (hg : L2.Gl X x) (hm : X.mg x = some (.ref g))
    (hb : L2.Binds X.K fd [a] []) (Sg : FnScope Ng [a] sg) (hNg : Ng[0]? = some a) (hva : Vis sg a) (hG : ∀ cdv : Value, LamX.GivesTo X Ng x sg g cdv bg a (X.env.qual ++ "<lambda>") (TTw X.K Tb mw))
    (TB : LamX.TabB X.base X.mg c P) (hcode : X.env.code = .ref c) (hmT : (P, X.env.qual ++ "<lambda>") ∈ Tb) (hu : ∀ p ∈ Tb, p.1 = P → p.2 = X.env.qual ++ "<lambda>") (hr : Room (k + 2) X.A) (L : LamX.LamS X.env.scope scope) (hdef : defaultsOf params X.env = ([], []))
    (hbind : ∀ (q : Str) (cl : List (Str × Addr)) (pm cv ctv : Value), bindArgs (PySem.W.kla_fn "<lambda>" q params body scope cl pm cv ctv) ⟨[], []⟩ = pure [])
    (hbody : ∀ (A : Around) (outer : List Env) (s : Shared) (H : Hp) (E : XK) (f c' : Addr), Room k (A.deeper (LamX.lamEnv X scope s.heap.objs.size f c')) → VQ (LamX.lamCx X A outer s H E scope f c') Tb C E G .z mb body)
    (hdb : (x == ("__debug__" : Str)) = false := by decide) (hd : (a == ("__debug__" : Str)) = false := by decide) (hcd : (a == ("__classdict__" : Str)) = false := by decide) :
    VQ X Tb C E G .z (qLam mw mb) (.Call (.Name x p) [.Lambda params body scope lpos] [] pos) := by
  obtain ⟨oc, od, dV, kV, doc, pm, an, cdv, ct, osl, rfl, lk, hcd2, _, _⟩ := F.ex
  refine ⟨fun pins s σ H Q I h => ?_⟩
  obtain ⟨Z, en, w, hq⟩ := h
  refine wpAny_Call_Name_kw (ld_glob I hg hm ?_ hdb)
  refine PySem.W.callWith_K (h₀ := X.base) I.ok.mod.kin F.kp ?_ (by rfl) (by rfl)
  show wpAny _ _ (spliced ((false, eval (.Lambda params body scope lpos) X.env) :: backTo pos (starEach [] X.env))) _ _ s
  refine Calls.spliced_cons (lam_mk I TB hcode hmT hu w.g.tb hdef (L.has I.ok) fun f c' pm' ctv H1 s' I1 eN T1 hf hfn hfr hco => ?_)
  refine Calls.spliced_nil ⟨I1.kIn, ?_⟩
  have w1 := w.keepZ eN T1
  have hTT : TTw X.K Tb mw (fun E H' Q' => tQ X.K Tb C E G .z mb σ H' Q') H1 Q := by
    refine ⟨mb en, Z, w1.g.zh, T1, fun E' H' Q' x t hr => ⟨Z, en, w1.keepZ x t, ?_⟩, ?_⟩
    · revert hr
      cases mb en with
      | ok d => exact fun hr v H'' x2 t2 o => hr v H'' x2 t2 o
      | exc y => exact fun hr => hr
      | bad => exact fun hr => hr
    · revert hq
      unfold qLam
      cases mw (mb en) with
      | ok d => exact fun hq v H' x t o => hq v H' (eN.trans x) t (RV.sb (fun b ob e n => by
          obtain ⟨f1, f2, f3⟩ := nw_of e
          refine nw_mk f1 f2 ?_
          rcases f3 with h | h | h
          · exact .inl h
          · exact .inr (.inl h)
          · exact .inr (.inr (eN.none h))) _ _ o)
      | exc y => exact fun hq => hq
      | bad => exact fun hq => hq
  have rc : codeAny (model X.prog X.w) X.A (.call (.ref g) ⟨[.ref f], []⟩) (CR C8.CX0 X.stack X.prog X.w H1 s' Q C8.E0) s' := by
    refine LamX.run_ofS (N := Ng) (ps := [a]) (us := [.ref f]) (vs := [.ref f]) lk hcd2 Sg hr I1.env0 (hb s' [.ref f] I1.kIn rfl) (.cons rfl .nil) rfl fun hr' => ?_
    obtain ⟨t', ht', hq'⟩ := hG cdv f c' s' H1 Q (fun E H' Q' => tQ X.K Tb C E G .z mb σ H' Q') (fun W pn xe E p1 p2 tk hW => LamX.pe_act (i := 0) I1 L hf hfn hfr (hbind _ _ _ _ _) tk hW hr' (fun A outer s H hr2 => hbody A outer s H E f c' hr2) hNg hva hd hcd) hco hTT
    exact ⟨t', ht'.nox, hq'⟩
  refine wpAny_call (codeAny_mono rc fun r s2 hq => ?_)
  cases r with
  | error e => exact (show False from hq).elim
  | ok fl =>
    cases fl with
    | ret u => exact I1.after hq
    | next => exact False.elim hq
    | brk => exact False.elim hq
    | cont => exact False.elim hq
end
end VL
namespace VL
open PySem PySem.Spec PyProof.Rows L2
/-! ### the end of a law: the promise may ask for Gd of the caller (HandS.EndTab's end, turned to FnP) -/
theorem law_callP {Gd : Around → Prop} (gdc : Gd callerA) {P : Program} {w : World} {K : PySem.W.Frag} {mg mb : Str → Option Value} {k : Nat} {fa a : Addr} {cs : List (Addr × Addr)} {fd : FuncData} {x : Str} {sp : Sp} {s₁ : Shared} {vs : List Value} {ns : List Int}
    (KX : K.In s₁.heap) (hns : s₁.heap.Ns mainGlobals mg) (hb : s₁.heap.Ns builtinsNs mb) (hbb : ∀ x : Str, x ≠ "__name__" → mb x = bootBuiltins x) (hlim : s₁.heap.NoLimit) (hg : s₁.gens = #[])
    (hT : ∀ p ∈ cs, s₁.heap.get? p.2 = some { cls := .none, data := .fields #[] }) (nT : ∀ p ∈ cs, K.lookup p.2 = none) (C : ∀ p ∈ cs, PySem.W.CodeHd s₁.heap p.1 p.2)
    (hbm : ∃ (bm : Addr) (ob : Obj), mg "__builtins__" = some (.ref bm) ∧ bm ≠ builtinsNs ∧ s₁.heap.get? bm = some ob ∧ ob.cls = .type "module" ∧ ob.dict = some builtinsNs ∧ ob.data = .plain)
    (ha : s₁.heap.get? a = some { cls := .type "list", data := .seq vs.toArray }) (hi : IntsAre vs ns) (hl : ns.length ≤ sizeLine) (hr : Room k callerA)
    (F : ∀ base : Heap, K.In base → base.Ns mainGlobals mg → (∀ p ∈ cs, LamX.TabB base mg p.1 p.2) → FnP Gd P w K mg base k fa fd [x] sp) (hbind : ∀ (s : Shared) (u : Value), BindsTo s fd ⟨[u], []⟩ [(x, u)])
    (hsp : ∀ H : Hp, (∀ p ∈ cs, H p.2 = some (.tbl #[])) → SqL K H a (ns.map V.int) → sp [.ref a] H (fun v _ => v = .bl true) fun _ _ _ => False)
    (hCX : ∀ H e s', L2.CX P w [] H s₁ (fun _ _ _ => False) e s' → False) :
    codeAny (model P w) callerA (.call (.ref fa) ⟨[.ref a], []⟩) (fun r s' => r = .ok (.ret (.bool true)) ∧ OldK s₁.heap s'.heap ∧ s'.os = s₁.os ∧ AllBare s'.gens) s₁ := by
  have rv := vals_ints hi
  have lenV := hi.length
  have isT : ∀ b : Addr, b ∈ cs.map (·.2) → s₁.heap.get? b = some { cls := .none, data := .fields #[] } := fun b hb => by
    obtain ⟨p, hp, e⟩ := List.mem_map.mp hb
    rw [← e]
    exact hT p hp
  have aT : a ∉ cs.map (·.2) := fun z => by
    have q := isT a z
    rw [ha] at q
    have z' : Data.seq vs.toArray _ = Data.fields #[] := congrArg Obj.data (Option.some.inj q)
    cases z'
  have memT : ∀ p ∈ cs, p.2 ∈ cs.map (·.2) := fun p hp => List.mem_map.mpr ⟨p, hp, rfl⟩
  -- from an abstract heap in which nothing but the script and the tables may be tracked
  have core : ∀ H : Hp, (∀ p ∈ cs, H p.2 = some (.tbl #[])) → (∀ b, H b = none ∨ b ∈ cs.map (·.2) ∨ ∃ o xs, H b = some (.frz o (.lst xs))) → SqL K H a (ns.map V.int) → HOk P w H s₁.heap → (∀ b, H b ≠ none → b = a ∨ b ∈ cs.map (·.2)) → (H a ≠ none → K.lookup a = none) →
      codeAny (model P w) callerA (.call (.ref fa) ⟨[.ref a], []⟩) (fun r s' => r = .ok (.ret (.bool true)) ∧ OldK s₁.heap s'.heap ∧ s'.os = s₁.os ∧ AllBare s'.gens) s₁ := by
    intro H hH hO hS hok hA hK
    have base_of : ∀ {b : Addr} {o : Obj}, s₁.heap.get? b = some o → H b = none → (hidT s₁.heap H).get? b = some o := fun e n => hidT_get e n
    have noD : ∀ {b : Addr} {o : Obj}, s₁.heap.get? b = some o → (∀ vs n, o.data ≠ .seq vs n) → o.data ≠ .fields #[] → H b = none := fun {b o} e h1 h2 => by
      cases q : H b with
      | none => rfl
      | some u =>
        rcases hA b (by rw [q]; simp) with e' | e'
        · rw [e', ha] at e
          cases e
          exact (h1 _ _ rfl).elim
        · rw [isT b e'] at e
          cases e
          exact (h2 rfl).elim
    have noA : ∀ {b : Addr} {o : Obj} {es : Array DictEntry} {ep : Nat}, s₁.heap.get? b = some o → o.data = .dict es ep → H b = none := fun {b o es ep} e d => by
      refine noD e (fun vs n z => ?_) fun z => ?_
      · rw [d] at z
        cases z
      · rw [d] at z
        cases z
    have nsK : ∀ {b : Addr} {m : Str → Option Value}, s₁.heap.Ns b m → (hidT s₁.heap H).Ns b m := fun {b m} ⟨o, es, ep, e, d, r⟩ => ⟨o, es, ep, base_of e (noA e d), d, r⟩
    have hKb : K.In (hidT s₁.heap H) := fun b o e => base_of (KX b o e) (by
      cases q : H b with
      | none => rfl
      | some u =>
        rcases hA b (by rw [q]; simp) with e' | e'
        · rw [e'] at e q
          rw [hK (by rw [q]; simp)] at e
          cases e
        · obtain ⟨p, hp, ep⟩ := List.mem_map.mp e'
          rw [← ep, nT p hp] at e
          cases e)
    have hM : L2.Mod K mg (hidT s₁.heap H) := ⟨hKb, nsK hns, ⟨mb, nsK hb, hbb⟩, let ⟨mc, h1, h2⟩ := hlim; ⟨mc, nsK h1, h2⟩⟩
    have TB : ∀ p ∈ cs, LamX.TabB (hidT s₁.heap H) mg p.1 p.2 := fun p hp => by
      have hTp := hT p hp
      refine ⟨?_, ?_, fun z => ?_⟩
      · obtain ⟨o, us, file, tf, flags, tg, inF, text, tt, e1, r1, r2, r3, r4, r5, r6, r7, r8, hne⟩ := C p hp
        refine ⟨o, us, file, tf, flags, tg, inF, text, tt, base_of e1 (noD e1 (fun vs n z => ?_) fun z => ?_), r1, r2, r3, r4, r5, r6, r7, r8, hne⟩
        · rw [r2] at z
          cases z
        · rw [r2] at z
          cases z
          simp at r3
      · obtain ⟨bm, ob, b1, b2, b3, b4, b5, b6⟩ := hbm
        have nG : bm ≠ mainGlobals := fun q => by
          obtain ⟨o, es, ep, e, hd, _⟩ := hns
          rw [q, e] at b3
          cases b3
          rw [hd] at b6
          cases b6
        have nP : bm ≠ p.2 := fun q => by
          rw [q, hTp] at b3
          cases b3
          cases b6
        refine ⟨bm, ob, b1, b2, nG, nP, base_of b3 (noD b3 (fun vs n z => ?_) fun z => ?_), b4, b5, b6⟩
        · rw [b6] at z
          cases z
        · rw [b6] at z
          cases z
      · obtain ⟨o, es, ep, e, hd, _⟩ := hns
        rw [z, hTp] at e
        cases e
        cases hd
    have e0 : Env0 P w K mg (hidT s₁.heap H) callerA [] s₁ H := ⟨rfl, hM, fun b o e => of_hidT e, Nat.le_of_eq (hidT_size _ _), trivial, fun b hb => absurd (show b ∈ ([] : List Addr) from hb) (by simp), hok, .of_eq hg⟩
    refine codeAny_mono ((F _ hKb (nsK hns) TB).run callerA [] s₁ H ⟨[.ref a], []⟩ [.ref a] [.ref a] _ _ hr gdc e0 (hbind s₁ (.ref a)) (.cons rfl .nil) (hsp H hH hS)) fun r s' h => ?_
    cases r with
    | error e => exact (hCX H e s' h).elim
    | ok fl =>
      cases fl with
      | next => exact False.elim h
      | brk => exact False.elim h
      | cont => exact False.elim h
      | ret u =>
        obtain ⟨v, H', os, bare, un, hok', r', q⟩ := h
        have q' : v = .bl true := q
        subst q'
        obtain rfl : u = Value.bool true := r'
        have key : ∀ b o, b ∉ cs.map (·.2) → s₁.heap.get? b = some o → s'.heap.get? b = some o := fun b o nb e => by
          cases q : H b with
          | none => exact un.keep b o e q (by intro z; exact absurd (show b ∈ ([] : List Addr) from z) (by simp)) (by simp)
          | some u =>
            rcases hO b with z | z | ⟨ob, xs, z⟩
            · rw [q] at z; cases z
            · exact absurd z nb
            · have z2 := un.frzs b ob _ z
              obtain ⟨e1, _⟩ := hok b _ z
              obtain ⟨e2, _⟩ := hok' b _ z2
              rw [e] at e1; cases e1
              exact e2
        have grown : ∀ p ∈ cs, ∃ more : Array Value, s'.heap.get? p.2 = some { cls := .none, data := .fields more } := fun p hp => by
          obtain ⟨more, z⟩ := un.tbls p.2 #[] (hH p hp)
          exact ⟨_, hok' p.2 _ z⟩
        refine ⟨rfl, ⟨fun b o e => ?_, fun b o e => ?_⟩, os, bare⟩
        · by_cases hb : b ∈ cs.map (·.2)
          · obtain ⟨p, hp, ep⟩ := List.mem_map.mp hb
            obtain ⟨more, hm⟩ := grown p hp
            rw [← ep] at e ⊢
            rw [hT p hp] at e
            cases e
            exact .inr (.inl ⟨((C p hp).tab (hT p hp)).isCodeTable, rfl, #[], more, rfl, by rw [Array.empty_append]; exact hm⟩)
          · exact .inl (key b o hb e)
        · by_cases hb : b ∈ cs.map (·.2)
          · obtain ⟨p, hp, ep⟩ := List.mem_map.mp hb
            obtain ⟨more, hm⟩ := grown p hp
            rw [← ep]
            exact ⟨_, hm⟩
          · exact ⟨o, key b o hb e⟩
  cases hk : K.lookup a with
  | some o =>
    have e := KX a o hk
    rw [ha] at e
    cases e
    refine core (fun b => if b ∈ cs.map (·.2) then some (.tbl #[]) else none) (fun p hp => if_pos (memT p hp)) (fun b => ?_) (.inr ⟨_, vs.toArray, _, hk, rfl, rfl, rfl, by rw [List.size_toArray, lenV]; exact hl, by simpa using rv⟩) (fun b u z => ?_) (fun b z => ?_) fun z => absurd (show (if a ∈ cs.map (·.2) then some (HO.tbl #[]) else none) = none from if_neg aT) z
    · by_cases hb : b ∈ cs.map (·.2)
      · exact .inr (.inl hb)
      · exact .inl (if_neg hb)
    · by_cases hb : b ∈ cs.map (·.2)
      · have z' := (if_pos hb).symm.trans z
        cases z'
        exact isT b hb
      · have z' := (if_neg hb).symm.trans z
        cases z'
    · by_cases hb : b ∈ cs.map (·.2)
      · exact .inr hb
      · exact absurd (if_neg hb) z
  | none =>
    refine core (fun b => if b = a then some (.frz { cls := .type "list", data := .seq vs.toArray } (.lst (ns.map V.int))) else if b ∈ cs.map (·.2) then some (.tbl #[]) else none) (fun p hp => (if_neg (show ¬ p.2 = a from fun z => aT (by rw [← z]; exact memT p hp))).trans (if_pos (memT p hp))) (fun b => ?_)
      (.inl (.inr ⟨{ cls := .type "list", data := .seq vs.toArray }, if_pos rfl⟩)) (fun b u z => ?_) (fun b z => ?_) fun _ => hk
    · by_cases hb : b = a
      · exact .inr (.inr ⟨_, _, if_pos hb⟩)
      · by_cases hb2 : b ∈ cs.map (·.2)
        · exact .inr (.inl hb2)
        · exact .inl ((if_neg hb).trans (if_neg hb2))
    · by_cases hb : b = a
      · have z' := (if_pos hb).symm.trans z
        cases z'
        rw [hb]
        exact ⟨ha, by rw [List.length_map]; exact hl, vs, _, rv, ha⟩
      · have z1 := (if_neg hb).symm.trans z
        by_cases hb2 : b ∈ cs.map (·.2)
        · have z' := (if_pos hb2).symm.trans z1
          cases z'
          exact isT b hb2
        · have z' := (if_neg hb2).symm.trans z1
          cases z'
    · by_cases hb : b = a
      · exact .inl hb
      · by_cases hb2 : b ∈ cs.map (·.2)
        · exact .inr hb2
        · exact absurd ((if_neg hb).trans (if_neg hb2)) z
def LawAtP (Gd : Around → Prop) (l : PySem.W.OpenLaw) (w : World) (K : Kf) (k n : Nat) (x : Str) (mg : Str → Option Value) (fa : Addr) (h : Heap) : Prop :=
  ∃ (fd : FuncData) (cs : List (Addr × Addr)) (sp : Sp), (∀ p ∈ cs, h.get? p.2 = some { cls := .none, data := .fields #[] }) ∧ (∀ p ∈ cs, K.lookup p.2 = none) ∧ (∀ p ∈ cs, PySem.W.CodeHd h p.1 p.2) ∧ (∀ (s : Shared) (u : Value), BindsTo s fd ⟨[u], []⟩ [(x, u)]) ∧
    (∀ (H : Hp) (a : Addr) (ns : List Int), ns.length ≤ n → (∀ z ∈ ns, Builtin.Int.intBits z ≤ 1048576) → (∀ p ∈ cs, H p.2 = some (.tbl #[])) → SqL K H a (ns.map V.int) → sp [.ref a] H (fun v _ => v = .bl true) fun _ _ _ => False) ∧
    ∀ base : Heap, K.In base → base.Ns mainGlobals mg → (∀ p ∈ cs, LamX.TabB base mg p.1 p.2) → FnP Gd l.prog w K mg base k fa fd [x] sp
theorem cx_end {P : Program} {w : World} {H : Hp} {s : Shared} {e : Value} {s' : Shared} : L2.CX P w [] H s (fun _ _ _ => False) e s' → False := fun h => by
  obtain ⟨_, _, _, _, _, _, _, _, _, _, _, _, z⟩ := h
  exact z
theorem walk_ofP {Gd : Around → Prop} (gdc : Gd callerA) {l : PySem.W.OpenLaw} {n k : Nat} {q : Program} {loose : List Str} {XP : (Str → Option Value) → Heap → Prop} {YP : World → Heap → Prop} {d : DefRec} {x : Str}
    (hn : l.most = some n) (hn2 : n ≤ sizeLine) (hdf : d.params.defaults = []) (hr : Room k callerA)
    (F : ∀ (w : World) (mg : Str → Option Value) (fa : Addr) (h : Heap), YP w h → h.Ns mainGlobals mg → mg d.name = some (.ref fa) → ∃ K : Kf, K.In h ∧ LawAtP Gd l w K k n x mg fa h) :
    PySem.W.WalkO q loose XP YP l.row.toRowW d [] (fun f vs => PySem.call f vs) := by
  refine Att.attach_callB hn hdf fun w s₀ s₁ mg mb fa o pm cd doc a vs ns G Y ho hd hcd hmg hobj hints hlen hbits hg => ?_
  obtain ⟨K, KX, fd, cs, sp, hT, nT, C, hb, hsp, hF⟩ := F w mg fa _ Y G.T.g hmg
  exact law_callP gdc KX G.T.g G.T.b G.T.builtins G.T.nolimit hg hT nT C G.T.bmain hobj hints (Nat.le_trans hlen hn2) hr hF hb (fun H hH hS => hsp H a ns hlen hbits hH hS) fun H e s' => cx_end
end VL
namespace VL
open PySem PySem.Spec PyProof.Rows L2
/-! ### what classes of exceptions say -/
def excB (K : Kf) (x : Str) : Bool := He.eqO (PySem.W.findIn K (.ref (He.ga K x)) "__getattribute__") (some (some (.builtin "BaseException.__getattribute__"))) && (He.eqO (PySem.W.findIn K (.ref (He.ga K x)) "__getattr__") (some none) &&
  (decide (PySem.W.subIn K (.ref (He.ga K x)) (.type "BaseException") = some true) && (PySem.W.hasDictIn K (He.ga K x) && (He.eqO (PySem.W.findIn K (.ref (He.ga K x)) "__class__") (some (some (.builtin "object.__class__"))) &&
  (He.eqO (PySem.W.specialIn K (.builtin "object.__class__") "__get__") (some (some (.builtin "getset_descriptor.__get__"))) && (decide (PySem.W.takesIn K (.builtin "object.__class__") = some true) && decide (PySem.W.mroIn K (He.ga K x) (.type "object") = some true)))))))
theorem excB_ok {K : Kf} {x : Str} (h : excB K x = true) : ExcC K (He.ga K x) := by
  unfold excB at h
  simp only [Bool.and_eq_true, decide_eq_true_eq] at h
  obtain ⟨h1, h2, h3, h4, h5, h6, h7, h8⟩ := h
  exact ⟨He.eqO_ok h1, He.eqO_ok h2, h3, h4, He.eqO_ok h5, He.eqO_ok h6, h7, h8⟩
def kitB (K : Kf) (x y : Str) (b : Bool) : Bool := decide (PySem.W.kitOne K (.ref (He.ga K x)) (.ref (He.ga K y)) = some b)
def kitT (K : Kf) (x : Str) (T : String) (b : Bool) : Bool := decide (PySem.W.kitOne K (.ref (He.ga K x)) (.type T) = some b)
def exmB (K : Kf) (x y : Str) (b : Bool) : Bool := decide (PySem.W.exmOne K (.ref (He.ga K x)) (.ref (He.ga K y)) = some b)
section
variable {X : Cx} {Tb : Tbs} {C : Cn} {E : XK} {G : List SM} {pos : Pos}
/-- isinstance(e, c), e the exception that the suite holds -/
theorem vq_isE (i : Nat) {a : Addr} {oe : Obj} {pn : List (Addr × Obj)} {x : Ec} {n cn : Str} {cv : Value} {v : V} {b : Bool} {p p2 p3 : Pos} (hC : ExcC X.K (He.ga X.K x.cls)) (hz : Zc (.ref (He.ga X.K x.cls)) none oe) (hfl : ∃ vs, oe.data = .fields vs)
    (hk : PySem.W.kitOne X.K (.ref (He.ga X.K x.cls)) cv = some b) (hcl : PE (X.suite a ((a, oe) :: pn)) (.Name cn p3) (tC v)) (hcv : ∀ u, RelV v u → u = cv) (hg : L2.Gl X "isinstance") (hm : X.mg "isinstance" = none)
    (hi : G[i]? = some (.ptr a) := by rfl) (hN : X.N[i]? = some n := by rfl) (hv : Vis X.env.scope n := by first | exact Or.inl rfl | exact Or.inr (Or.inl rfl) | exact Or.inr (Or.inr rfl)) (hd : (n == ("__debug__" : Str)) = false := by decide) (hcd : (n == ("__classdict__" : Str)) = false := by decide)
    (he : starEach [.Name n p2, .Name cn p3] X.env = (false, eval (.Name n p2) X.env) :: starEach [.Name cn p3] X.env := by rfl) (hpl : (backTo pos (starEach [.Name cn p3] X.env)).any (·.1) = false := by rfl) (he2 : starEach [.Name cn p3] X.env = (false, eval (.Name cn p3) X.env) :: starEach [] X.env := by rfl) :
    VQ (X.suite a ((a, oe) :: pn)) Tb C E G .z (qc (.bool b)) (.Call (.Name "isinstance" p) [.Name n p2, .Name cn p3] [] pos) :=
  PE.weak (pe_callB (call_isE hC hz hfl) hg hm (by decide +kernel) (pa_cons (pe_var (i := i) hN hv hd hcd) (pa_cons hcl pa_nil he2) he) (by decide) (by decide) he hpl) fun σ H Q _ hq => by
    obtain ⟨Z, en, w, hm⟩ := hq
    obtain ⟨ov, k1, k2⟩ := w.sl i _ hi
    have k2 : ov = some (.ref a) := k2
    subst k2
    exact ⟨.ref a, k1, v, cv, b, rfl, hcv, hk, hm _ H (Ex.refl H) w.g.tb rfl⟩
theorem vq_isC (i : Nat) {a : Addr} {oe : Obj} {pn : List (Addr × Obj)} {x : Ec} {n cn : Str} {b : Bool} {p p2 p3 : Pos} (hC : ExcC X.K (He.ga X.K x.cls)) (hz : Zc (.ref (He.ga X.K x.cls)) none oe) (hfl : ∃ vs, oe.data = .fields vs)
    (hk : PySem.W.kitOne X.K (.ref (He.ga X.K x.cls)) (.ref (He.ga X.K cn)) = some b) (hgc : L2.Gl X cn) (hmc : X.mg cn = some (.ref (He.ga X.K cn))) (hg : L2.Gl X "isinstance") (hm : X.mg "isinstance" = none)
    (hi : G[i]? = some (.ptr a) := by rfl) (hN : X.N[i]? = some n := by rfl) (hv : Vis X.env.scope n := by first | exact Or.inl rfl | exact Or.inr (Or.inl rfl) | exact Or.inr (Or.inr rfl)) (hd : (n == ("__debug__" : Str)) = false := by decide) (hcd : (n == ("__classdict__" : Str)) = false := by decide) (hdc : (cn == ("__debug__" : Str)) = false := by decide)
    (he : starEach [.Name n p2, .Name cn p3] X.env = (false, eval (.Name n p2) X.env) :: starEach [.Name cn p3] X.env := by rfl) (hpl : (backTo pos (starEach [.Name cn p3] X.env)).any (·.1) = false := by rfl) (he2 : starEach [.Name cn p3] X.env = (false, eval (.Name cn p3) X.env) :: starEach [] X.env := by rfl) :
    VQ (X.suite a ((a, oe) :: pn)) Tb C E G .z (qc (.bool b)) (.Call (.Name "isinstance" p) [.Name n p2, .Name cn p3] [] pos) :=
  vq_isE i hC hz hfl hk (pe_glob (v := .ref (He.ga X.K cn)) hgc hmc rfl hdc) (fun u h => h) hg hm hi hN hv hd hcd he hpl he2
theorem vq_isT (i : Nat) {a : Addr} {oe : Obj} {pn : List (Addr × Obj)} {x : Ec} {n cn : Str} {T : String} {b : Bool} {p p2 p3 : Pos} (hC : ExcC X.K (He.ga X.K x.cls)) (hz : Zc (.ref (He.ga X.K x.cls)) none oe) (hfl : ∃ vs, oe.data = .fields vs)
    (hk : PySem.W.kitOne X.K (.ref (He.ga X.K x.cls)) (.type T) = some b) (hgc : L2.Gl X cn) (hmc : X.mg cn = none) (hbt : bootBuiltins cn = some (.type T)) (hg : L2.Gl X "isinstance") (hm : X.mg "isinstance" = none)
    (hi : G[i]? = some (.ptr a) := by rfl) (hN : X.N[i]? = some n := by rfl) (hv : Vis X.env.scope n := by first | exact Or.inl rfl | exact Or.inr (Or.inl rfl) | exact Or.inr (Or.inr rfl)) (hd : (n == ("__debug__" : Str)) = false := by decide) (hcd : (n == ("__classdict__" : Str)) = false := by decide) (hn : cn ≠ "__name__" := by decide) (hdc : (cn == ("__debug__" : Str)) = false := by decide)
    (he : starEach [.Name n p2, .Name cn p3] X.env = (false, eval (.Name n p2) X.env) :: starEach [.Name cn p3] X.env := by rfl) (hpl : (backTo pos (starEach [.Name cn p3] X.env)).any (·.1) = false := by rfl) (he2 : starEach [.Name cn p3] X.env = (false, eval (.Name cn p3) X.env) :: starEach [] X.env := by rfl) :
    VQ (X.suite a ((a, oe) :: pn)) Tb C E G .z (qc (.bool b)) (.Call (.Name "isinstance" p) [.Name n p2, .Name cn p3] [] pos) :=
  vq_isE i hC hz hfl hk (pe_bltn (v := .ty T) hgc hmc hbt rfl hn hdc) (fun u h => h) hg hm hi hN hv hd hcd he hpl he2
end
end VL
namespace VL
open PySem PySem.Spec PyProof.Rows L2
section
variable {X : Cx} {K : Kf} {Gd : Around → Prop} {Tb : Tbs} {C : Cn} {E : XK} {G : List SM} {fl fa fb f0 : Fl} {a b c e : Expr} {es rest : List Expr} {ma mb : En → R Dt} {pos : Pos}
/-! ### argument lists of a known length -/
def LenIs (ml : En → R (List Dt)) (n : Nat) : Prop := ∀ e ds, ml e = .ok ds → ds.length = n
structure VAn (X : Cx) (Tb : Tbs) (C : Cn) (E : XK) (G : List SM) (t : Bool) (n : Nat) (m : En → R (List Dt)) (es : List Expr) : Prop where
  va : VA X Tb C E G t m es
  len : LenIs m n
theorem an_nil : VAn X Tb C E G false 0 lnil [] := ⟨va_nil, fun e ds h => by cases h; rfl⟩
theorem an_cons {t : Bool} {n : Nat} {m : En → R Dt} {ml : En → R (List Dt)} (ha : VQ X Tb C E G fa m e) (hr : VAn X Tb C E G t n ml es) (hs : starEach (e :: es) X.env = (false, eval e X.env) :: starEach es X.env := by rfl) : VAn X Tb C E G (fa.t? || t) (n + 1) (lcons m ml) (e :: es) :=
  ⟨va_cons ha hr.va hs, fun en ds h => by
    unfold lcons at h
    obtain ⟨x, _, h2⟩ := bind_ok h
    obtain ⟨xs, h3, h4⟩ := bind_ok h2
    cases h4
    simp [hr.len en xs h3]⟩
theorem nq_tup {t : Bool} {n : Nat} {ml : En → R (List Dt)} {k : Nat} (h : VAn X Tb C E G t n ml es) (hn : n ≤ 1000 := by decide) : VQ X Tb C E G (Fl.on t .z) (qtup ml) (.Tuple es k pos) := vq_tup h.va fun e ds hd => by rw [h.len e ds hd]; exact hn
theorem nq_lst {t : Bool} {n : Nat} {ml : En → R (List Dt)} (h : VAn X Tb C E G t n ml es) (hn : n ≤ 1000 := by decide) : VQ X Tb C E G (Fl.on t .own) (qlst ml) (.List es pos) := vq_lst h.va fun e ds hd => by rw [h.len e ds hd]; exact hn
theorem nq_call {k : Nat} {f : Addr} {fd : FuncData} {ps : List Str} {x : Str} {p : Pos} {t : Bool} {n : Nat} {m : List Dt → R Dt} {ml : En → R (List Dt)} (F : FnP Gd X.prog X.w X.K X.mg X.base k f fd ps (spF X.K Tb f0 n m)) (hr : Room k X.A) (hgd : Gd X.A) (hm : X.mg x = some (.ref f)) (hk : PySem.W.keepIn X.K (.ref f) = true)
    (hb : Binds X.K fd ps []) (hx : Passes (L2.CX X.prog X.w) X E) (ha : VAn X Tb C E G t n ml (e :: es)) (hg : L2.Gl X x := by rfl) (hdb : (x == ("__debug__" : Str)) = false := by decide)
    (he : starEach (e :: es) X.env = (false, eval e X.env) :: starEach es X.env := by rfl) (hpl : (backTo pos (starEach es X.env)).any (·.1) = false := by rfl) : VQ X Tb C E G (Fl.on t f0) (qF m ml) (.Call (.Name x p) (e :: es) [] pos) :=
  vq_callP F hr hgd hg hm hk hb hx ha.va (fun en ds h => ha.len en ds h) hdb he hpl
def LenM (ml : En → R (List Dt × En)) (n : Nat) : Prop := ∀ e p, ml e = .ok p → p.1.length = n
structure VMLn (X : Cx) (Tb : Tbs) (C : Cn) (G : List SM) (n : Nat) (m : En → R (List Dt × En)) (es : List Expr) : Prop where
  va : VML X Tb C G m es
  len : LenM m n
theorem mn_nil : VMLn X Tb C G 0 mnil [] := ⟨vml_nil, fun e ds h => by cases h; rfl⟩
theorem mn_cons {n : Nat} {m : En → R (Dt × En)} {ml : En → R (List Dt × En)} (ha : VM X Tb C G m e) (hr : VMLn X Tb C G n ml es) (hs : starEach (e :: es) X.env = (false, eval e X.env) :: starEach es X.env := by rfl) : VMLn X Tb C G (n + 1) (mcons m ml) (e :: es) :=
  ⟨vml_cons ha hr.va hs, fun en p h => by
    unfold mcons mB at h
    obtain ⟨x, _, h2⟩ := bind_ok h
    obtain ⟨xs, h3, h4⟩ := bind_ok h2
    cases h4
    simp [hr.len _ xs h3]⟩
theorem nm_tup {n : Nat} {ml : En → R (List Dt × En)} {k : Nat} (h : VMLn X Tb C G n ml es) (hn : n ≤ 1000 := by decide) : VM X Tb C G (mtup ml) (.Tuple es k pos) := vm_tup h.va fun e p hd => by rw [h.len e p hd]; exact hn
theorem nm_lst {n : Nat} {ml : En → R (List Dt × En)} (h : VMLn X Tb C G n ml es) (hn : n ≤ 1000 := by decide) : VM X Tb C G (mlst ml) (.List es pos) := vm_lst h.va fun e p hd => by rw [h.len e p hd]; exact hn
theorem nm_call {k : Nat} {f : Addr} {fd : FuncData} {ps : List Str} {x : Str} {p : Pos} {n : Nat} {m : List Dt → R Dt} {ml : En → R (List Dt × En)} (F : FnP Gd X.prog X.w X.K X.mg X.base k f fd ps (spF X.K Tb f0 n m)) (hr : Room k X.A) (hgd : Gd X.A) (hm : X.mg x = some (.ref f)) (hk : PySem.W.keepIn X.K (.ref f) = true)
    (hb : Binds X.K fd ps []) (ha : VMLn X Tb C G n ml (e :: es)) (hf : f0.t? = false := by rfl) (hg : L2.Gl X x := by rfl) (hdb : (x == ("__debug__" : Str)) = false := by decide)
    (he : starEach (e :: es) X.env = (false, eval e X.env) :: starEach es X.env := by rfl) (hpl : (backTo pos (starEach es X.env)).any (·.1) = false := by rfl) : VM X Tb C G (mF m ml) (.Call (.Name x p) (e :: es) [] pos) :=
  vm_callP F hr hgd hg hm hk hb ha.va (fun en p h => ha.len en p h) hf hdb he hpl
theorem nm_io (i : Nat) {k : Nat} {f : Addr} {fd : FuncData} {ps : List Str} {x y : Str} {p p2 : Pos} {n : Nat} {m : Dt → List Dt → R (Dt × Dt)} {ml : En → R (List Dt × En)} (F : FnP Gd X.prog X.w X.K X.mg X.base k f fd ps (spM X.K Tb n m)) (hr : Room k X.A) (hgd : Gd X.A) (hm : X.mg x = some (.ref f)) (hk : PySem.W.keepIn X.K (.ref f) = true)
    (hb : Binds X.K fd ps []) (ha : VMLn X Tb C G n ml es) (hg : L2.Gl X x := by rfl)
    (hi : (G[i]? = some .own ∨ G[i]? = some .io) := by first | exact Or.inl rfl | exact Or.inr rfl) (io1 : ioOk G = true := by rfl) (hN : X.N[i]? = some y := by rfl) (hv : Vis X.env.scope y := by first | exact Or.inl rfl | exact Or.inr (Or.inl rfl) | exact Or.inr (Or.inr rfl)) (hd : (y == ("__debug__" : Str)) = false := by decide)
    (hcd : (y == ("__classdict__" : Str)) = false := by decide) (hdb : (x == ("__debug__" : Str)) = false := by decide)
    (he : starEach (.Name y p2 :: es) X.env = (false, eval (.Name y p2) X.env) :: starEach es X.env := by rfl) (hpl : (backTo pos (starEach es X.env)).any (·.1) = false := by rfl) : VM X Tb C G (mIo i m ml) (.Call (.Name x p) (.Name y p2 :: es) [] pos) :=
  vm_callIo i F hr hgd hg hm hk hb ha.va (fun en p h => ha.len en p h) hi io1 hN hv hd hcd hdb he hpl
/-! ### - e -/
def negD : Dt → Option Dt
  | .int i => some (.int (-i))
  | _ => none
theorem vq_neg (ha : VQ X Tb C E G fa ma a) : VQ X Tb C E G .z (q1 negD ma) (.UnaryOp .USub a pos) := PE.weak (pe_un un_neg ha) fun σ H Q _ hq => by
  obtain ⟨Z, en, w, hm⟩ := hq
  refine ⟨Z, en, w, ?_⟩
  unfold q1 at hm
  revert hm
  cases ma en with
  | exc x => exact fun hm => hm
  | bad => exact fun hm => hm
  | ok d =>
    cases d with
    | int i =>
      intro hm v H1 x t o
      have e : v = .int i := o.rv
      exact ⟨i, e, hm _ H1 x t rfl⟩
    | none => exact fun hm => hm.elim
    | bool _ => exact fun hm => hm.elim
    | str _ => exact fun hm => hm.elim
    | list _ => exact fun hm => hm.elim
    | tuple _ => exact fun hm => hm.elim
    | dict _ => exact fun hm => hm.elim
/-! ### {} -/
/-! ### the script -/
def scrL (ns : List Int) : List Dt := ns.map .int
theorem scr_rv {S : Hp} : ∀ ns : List Int, RVs K S (scrL ns) (ns.map V.int)
  | [] => rfl
  | n :: ns => ⟨.int n, _, rfl, rfl, scr_rv ns⟩
def qScr (ns : List Int) : En → R Dt := fun _ => .ok (.list (cutL (scrL ns) none (some 63)))
theorem vq_scr {aa : Addr} {ns : List Int} {x : Str} {kk : Nat} {p p2 p3 : Pos} (hS : ∀ H : Hp, Sb C.H0 H → SqL X.K H aa (ns.map V.int)) (hio : C.io = none) (hi : G[0]? = some (.ptr aa) := by rfl) (hN : X.N[0]? = some x := by rfl) (hv : Vis X.env.scope x := by first | exact Or.inl rfl | exact Or.inr (Or.inl rfl) | exact Or.inr (Or.inr rfl)) (hd : (x == ("__debug__" : Str)) = false := by decide)
    (hcd : (x == ("__classdict__" : Str)) = false := by decide) : VQ X Tb C E G .own (qScr ns) (.Subscript (.Name x p) (.Slice none (some (.Constant (.int 63) kk p3)) none p2) pos) :=
  PE.weak (pe_slice sl_list (pe_var hN hv hd hcd) po_none (po_some pe_int)) fun σ H Q _ hq => by
    obtain ⟨Z, en, w, hm⟩ := hq
    obtain ⟨ov, k1, k2⟩ := w.sl 0 _ hi
    have k2 : ov = some (.ref aa) := k2
    subst k2
    have hs := hS H fun b o e n => w.g.ke b o e n (by rw [hio]; intro z; cases z)
    refine ⟨.ref aa, k1, 63, rfl, aa, _, rfl, hs, fun q nq => ?_⟩
    exact hm _ _ (Ex.of_same (same_upd nq)) (w.g.tb.ext (same_upd nq)) (out_lst w.g.zh nq ((scr_rv ns).cut none (some 63)))
end
/-! ### the defs that take the script -/
section
variable {P : Program} {w : World} {K : Kf} {mg : Str → Option Value} {base : Heap} {Tb : Tbs} {Gd : Around → Prop}
def spH (K : Kf) (Tb : Tbs) (m : List Int → R Dt) : Sp := fun vs H Q E => ∃ (a : Addr) (ns : List Int), vs = [.ref a] ∧ SqL K H a (ns.map V.int) ∧ LamX.Tabs Tb H ∧ match m ns with
  | .ok d => ∀ v H', Ex H H' → LamX.Tabs Tb H' → (∀ Z, Sb Z H → Out K .own Z H H' d v) → Q v H'
  | _ => False
def spL (K : Kf) (Tb : Tbs) (m : List Int → R Dt) : Sp := fun vs H Q E => ∃ (a : Addr) (ns : List Int), vs = [.ref a] ∧ SqL K H a (ns.map V.int) ∧ LamX.Tabs Tb H ∧ match m ns with
  | .ok d => ∀ v H', RV K H' d v → Q v H'
  | _ => False
theorem seq_keep {H H' : Hp} {a : Addr} {xs : List V} (h : SqL K H a xs) (s : Sb H H') : SqL K H' a xs := SqL.sb s h
theorem wf_startS {H : Hp} {a : Addr} {N : List Str} {l : Nat} (hN : N.length = l + 1) (tb : LamX.Tabs Tb H) : Wf K Tb ⟨H, fun _ => none, none⟩ (.ptr a :: List.replicate l .dead) (fun _ => none) (List.replicate (l + 1) .none) (L2.start N [.ref a]) H := by
  have hst : (L2.start N [V.ref a]) = (List.replicate (l + 1) (none : Option V)).set 0 (some (.ref a)) := by
    unfold L2.start
    rw [hN]
    rfl
  have wd : Wf K Tb ⟨H, fun _ => none, none⟩ (List.replicate (l + 1) .dead) (fun _ => none) (List.replicate (l + 1) .none) (List.replicate (l + 1) (none : Option V)) H :=
    wf_dead ⟨fun a o e => (by cases e), Sb.refl _, fun a o h _ => .inl h, fun a o h _ _ => h, fun a ps h => ⟨ps, h⟩, fun a (h : (none : Option Addr) = some a) => (nomatch h), tb⟩ (by simp)
  have w2 := wd.setM (i := 0) (m0 := .ptr a) (d := .none) (ov := some (.ref a)) (by simp) rfl fun z => by cases z
  rw [hst]
  exact w2
theorem ok_defH {x qual : Str} {params : Arguments} {body : List Stmt} {scope : Scope} {f : Addr} {fd : FuncData} {N ps : List Str} {k l : Nat} {G' Lp : List SM} {m : List Int → R Dt} {mb : List Int → En → RS} (gdo : GdOk Gd) (F : FunD K x qual params body scope [] [] f fd) (S : FnScope N ps scope)
    (hn : ps.length = 1) (hN : N.length = l + 1) (hm : ∀ ns, m ns = fin (mb ns (List.replicate (l + 1) .none))) (hnx : ∀ ns e e', mb ns e ≠ .nx e')
    (hb : ∀ (cdv : Value) (A : Around) (outer : List Env) (s : Shared) (H : Hp) (a : Addr) (ns : List Int) (E : XK), CdOk K f qual cdv → (∀ H' : Hp, Sb H H' → SqL K H' a (ns.map V.int)) → Bp Gd (cxOf (L2.CX P w) P w K mg base N qual scope f cdv A outer s H E) E k → VSs (cxOf (L2.CX P w) P w K mg base N qual scope f cdv A outer s H E) Tb ⟨H, fun _ => none, none⟩ E .own (.ptr a :: List.replicate l .dead) G' Lp (mb ns) body) :
    FnP Gd P w K mg base (k + 1) f fd ps (spH K Tb m) := by
  refine fnP_of gdo F S (fun vs H Q E h => ?_) (fun cdv A outer s H vs Q E hcd hr hg h => ?_)
  · obtain ⟨a, ns, rfl, _⟩ := h
    rw [hn]
    rfl
  · obtain ⟨a, ns, rfl, h2, h4, h5⟩ := h
    refine ⟨_, hb cdv A outer s H a ns E hcd (fun H' s => seq_keep h2 s) ⟨rfl, takes_of rfl rfl rfl rfl, passes_of rfl, passes_call (takes_of rfl rfl rfl rfl) (fun _ _ _ _ h => h), hr, hg⟩, ?_⟩
    refine ⟨_, _, wf_startS hN h4, ?_⟩
    rw [hm] at h5
    revert h5
    cases hms : mb ns (List.replicate (l + 1) .none) with
    | nx e' => exact fun _ => (hnx _ _ _ hms).elim
    | bk e' => exact fun h5 => h5.elim
    | ct e' => exact fun h5 => h5.elim
    | rt d e' =>
      intro h5 v Z' H' g _ r
      refine h5 v H' g.ex g.tb fun Z sz => ?_
      have o := r.out g rfl
      obtain ⟨aa, e1, e2, e3⟩ := o
      refine ⟨aa, e1, e2, e3.mono (rm_mono (nw_mono fun b u e => by cases e)) fun _ q _ => q⟩
    | exc y => exact fun h5 => h5.elim
    | bad => exact fun h5 => h5
theorem ok_defL {x qual : Str} {params : Arguments} {body : List Stmt} {scope : Scope} {f : Addr} {fd : FuncData} {N ps : List Str} {k l : Nat} {G' Lp : List SM} {m : List Int → R Dt} {mb : List Int → En → RS} (gdo : GdOk Gd) (F : FunD K x qual params body scope [] [] f fd) (S : FnScope N ps scope)
    (hn : ps.length = 1) (hN : N.length = l + 1) (hm : ∀ ns, m ns = fin (mb ns (List.replicate (l + 1) .none)))
    (hb : ∀ (cdv : Value) (A : Around) (outer : List Env) (s : Shared) (H : Hp) (a : Addr) (ns : List Int) (E : XK), CdOk K f qual cdv → (∀ H' : Hp, Sb H H' → SqL K H' a (ns.map V.int)) → Bp Gd (cxOf (L2.CX P w) P w K mg base N qual scope f cdv A outer s H E) E k → VSs (cxOf (L2.CX P w) P w K mg base N qual scope f cdv A outer s H E) Tb ⟨H, fun _ => none, none⟩ E .z (.ptr a :: List.replicate l .dead) G' Lp (mb ns) body) :
    FnP Gd P w K mg base (k + 1) f fd ps (spL K Tb m) := by
  refine fnP_of gdo F S (fun vs H Q E h => ?_) (fun cdv A outer s H vs Q E hcd hr hg h => ?_)
  · obtain ⟨a, ns, rfl, _⟩ := h
    rw [hn]
    rfl
  · obtain ⟨a, ns, rfl, h2, h4, h5⟩ := h
    refine ⟨_, hb cdv A outer s H a ns E hcd (fun H' s => seq_keep h2 s) ⟨rfl, takes_of rfl rfl rfl rfl, passes_of rfl, passes_call (takes_of rfl rfl rfl rfl) (fun _ _ _ _ h => h), hr, hg⟩, ?_⟩
    refine ⟨_, _, wf_startS hN h4, ?_⟩
    rw [hm] at h5
    revert h5
    cases hms : mb ns (List.replicate (l + 1) .none) with
    | nx e' => exact fun h5 σ' Z' H' _ w' => h5 .non H' rfl
    | bk e' => exact fun h5 => h5.elim
    | ct e' => exact fun h5 => h5.elim
    | rt d e' => exact fun h5 v Z' H' g _ r => h5 v H' (RV.sb g.zh _ _ r)
    | exc y => exact fun h5 => h5.elim
    | bad => exact fun h5 => h5
end
section
variable {X : Cx} {Gd : Around → Prop} {Tb : Tbs} {C : Cn} {E : XK} {G : List SM} {pos : Pos}
def qHand (r : R Dt) : En → R Dt := fun _ => match r with
  | .ok d => .ok d
  | _ => .bad
/-- _law_hand(script) -/
theorem vq_hand {aa : Addr} {ns : List Int} {k : Nat} {f : Addr} {fd : FuncData} {ps : List Str} {x y : Str} {p p2 : Pos} {m : List Int → R Dt} (F : FnP Gd X.prog X.w X.K X.mg X.base k f fd ps (spH X.K Tb m)) (hr : Room k X.A) (hgd : Gd X.A) (hm : X.mg x = some (.ref f)) (hk : PySem.W.keepIn X.K (.ref f) = true) (hb : Binds X.K fd ps [])
    (hS : ∀ H : Hp, Sb C.H0 H → SqL X.K H aa (ns.map V.int)) (hio : C.io = none) (hg : L2.Gl X x := by rfl) (hi : G[0]? = some (.ptr aa) := by rfl) (hN : X.N[0]? = some y := by rfl) (hv : Vis X.env.scope y := by first | exact Or.inl rfl | exact Or.inr (Or.inl rfl) | exact Or.inr (Or.inr rfl)) (hd : (y == ("__debug__" : Str)) = false := by decide)
    (hcd : (y == ("__classdict__" : Str)) = false := by decide) (hdb : (x == ("__debug__" : Str)) = false := by decide)
    (he : starEach [.Name y p2] X.env = (false, eval (.Name y p2) X.env) :: starEach [] X.env := by rfl) (hpl : (backTo pos (starEach [] X.env)).any (·.1) = false := by rfl) : VQ X Tb C E G .own (qHand (m ns)) (.Call (.Name x p) [.Name y p2] [] pos) :=
  PE.weak (pe_callP (E := E00) F hr hgd hg hm hk hb passes0 (pa_cons (pe_var hN hv hd hcd) pa_nil he) hdb he hpl) fun σ H Q _ hq => by
    obtain ⟨Z, en, w, hm⟩ := hq
    obtain ⟨ov, k1, k2⟩ := w.sl 0 _ hi
    have k2 : ov = some (.ref aa) := k2
    subst k2
    have hs := hS H fun b o e n => w.g.ke b o e n (by rw [hio]; intro z; cases z)
    refine ⟨.ref aa, k1, aa, ns, rfl, hs, w.g.tb, ?_⟩
    unfold qHand at hm
    revert hm
    cases m ns with
    | ok d => exact fun hm v H' x t o => hm v H' x t (o Z w.g.zh)
    | exc x => exact fun hm => hm
    | bad => exact fun hm => hm
end
end VL
namespace VL
open PySem PySem.Spec PyProof.Rows L2
section
variable {X : Cx} {K : Kf} {Tb : Tbs} {C : Cn} {E : XK} {G G' Gl : List SM} {f0 f1 f2 f3 : Fl} {a b c : Expr} {m1 m2 m3 : En → R Dt} {pos : Pos}
/-! ### {} -/
theorem vq_dnew : VQ X Tb C E G .own (qc (.dict [])) (.Dict [] [] pos) := PE.weak pe_dnewK fun σ H Q _ hq => by
  obtain ⟨Z, en, w, hm⟩ := hq
  intro q nq
  exact hm _ _ (Ex.of_same (same_upd nq)) (w.g.tb.ext (same_upd nq)) ⟨q, rfl, nq, .inl ⟨[], upd_same, rfl⟩⟩
/-! ### x, y = e, f -/
def smF : Fl → SM
  | .own => .own
  | _ => .z
/-- one more item evaluated, its slot filled at once -/
theorem Wf.item {Z H H1 : Hp} {en : En} {σ : L2.St} {f : Fl} {d : Dt} {v : V} (w : Wf K Tb C G Z en σ H) (x : Ex H H1) (t : LamX.Tabs Tb H1) (o : Out K f Z H H1 d v) (hf : f.t? = false) :
    ∃ Z1, Sb Z Z1 ∧ Wf K Tb C G Z1 en σ H1 ∧ ∀ i, i < G.length → Wf K Tb C (G.set i (smF f)) Z1 (en.set i d) (σ.set i (some v)) H1 := by
  cases f with
  | t => cases hf
  | z => exact ⟨_, nw_s (w.g.zh.trans x.ke), w.ext x t, fun i hi => (w.ext x t).setZ hi o⟩
  | own =>
    obtain ⟨aa, rfl, n, o⟩ := o
    refine ⟨_, zs_rm w.g.zh x n, w.extO x t n, fun i hi => (w.extO x t n).setM hi ⟨aa, rfl, o, w.g.h0 n, rm_same⟩ fun _ j b hj hg e1 e2 => ?_⟩
    cases e1
    obtain ⟨ov, h1, b, h2, h3, _⟩ := w.sl j _ hg
    rw [h1] at e2
    cases e2
    cases h2
    obtain ⟨o', q, _⟩ := h3.obj
    rw [n] at q
    cases q
theorem Wf.item2 {G2 : List SM} {Z H H1 : Hp} {en en2 : En} {σ σ2 : L2.St} {f : Fl} {d : Dt} {v : V} (w : Wf K Tb C G Z en σ H) (w' : Wf K Tb C G2 Z en2 σ2 H) (x : Ex H H1) (t : LamX.Tabs Tb H1) (o : Out K f Z H H1 d v) (hf : f.t? = false) :
    ∃ Z1, Sb Z Z1 ∧ Wf K Tb C G Z1 en σ H1 ∧ ∀ i, i < G2.length → Wf K Tb C (G2.set i (smF f)) Z1 (en2.set i d) (σ2.set i (some v)) H1 := by
  cases f with
  | t => cases hf
  | z => exact ⟨_, nw_s (w.g.zh.trans x.ke), w.ext x t, fun i hi => (w'.ext x t).setZ hi o⟩
  | own =>
    obtain ⟨aa, rfl, n, o⟩ := o
    refine ⟨_, zs_rm w.g.zh x n, w.extO x t n, fun i hi => (w'.extO x t n).setM hi ⟨aa, rfl, o, w'.g.h0 n, rm_same⟩ fun _ j b hj hg e1 e2 => ?_⟩
    cases e1
    obtain ⟨ov, h1, b, h2, h3, _⟩ := w'.sl j _ hg
    rw [h1] at e2
    cases e2
    cases h2
    obtain ⟨o', q, _⟩ := h3.obj
    rw [n] at q
    cases q
def sPar2 (i j : Nat) (m1 m2 : En → R Dt) : En → RS := fun e => RS.ofR (m1 e) fun d1 => RS.ofR (m2 e) fun d2 => .nx ((e.set i d1).set j d2)
theorem vs_par2 (i j : Nat) {x y : Str} {px py pt : Pos} {kt k2 : Nat} {pt2 : Pos} (ha : VQ X Tb C E G f1 m1 a) (hb : VQ X Tb C E G f2 m2 b) (h1 : f1.t? = false) (h2 : f2.t? = false) (hc : X.calm = true) (hN : X.N.Nodup) (hij : i ≠ j := by decide) (hgi : i < G.length := by first | decide | exact of_decide_eq_true rfl) (hgj : j < G.length := by first | decide | exact of_decide_eq_true rfl)
    (hi : X.N[i]? = some x := by rfl) (hj : X.N[j]? = some y := by rfl) (hx : X.env.scope.names.lookup x = some .local := by rfl) (hy : X.env.scope.names.lookup y = some .local := by rfl) (sa : starEach [a, b] X.env = (false, eval a X.env) :: starEach [b] X.env := by rfl) (sb : starEach [b] X.env = (false, eval b X.env) :: starEach [] X.env := by rfl)
    (hw : swappedStores [.Tuple [.Name x px, .Name y py] kt pt] (.Tuple [a, b] k2 pt2) X.env = pure (some [x, y]) := by rfl)
    (hs : swapsWithSole [.Tuple [.Name x px, .Name y py] kt pt] (.Tuple [a, b] k2 pt2) pos.line X.env = pure false := by rfl) :
    VS X Tb C E f0 G ((G.set i (smF f1)).set j (smF f2)) Gl (sPar2 i j m1 m2) (.Assign [.Tuple [.Name x px, .Name y py] kt pt] (.Tuple [a, b] k2 pt2) pos) :=
  PS.weak (ps_par hc hN hi hj hij hx hy (pa_cons ha (pa_cons hb pa_nil sb) sa) hw hs) fun D σ H _ hq => by
    obtain ⟨Z, en, w, hm⟩ := hq
    refine ⟨Z, en, w, ?_⟩
    unfold sPar2 at hm
    revert hm
    cases m1 en with
    | exc x => exact fun hm => EXC.toS w.g hm
    | bad => exact fun hm => hm
    | ok d1 =>
      intro hm v1 H1 x1 t1 o1
      obtain ⟨Z1, s1, w1, k1⟩ := w.item x1 t1 o1 h1
      refine ⟨Z1, en, w1, ?_⟩
      have hm := cont_mono s1 hm
      revert hm
      dsimp only [RS.ofR]
      cases m2 en with
      | exc x => exact fun hm => EXC.toS w1.g hm
      | bad => exact fun hm => hm
      | ok d2 =>
        intro hm v2 H2 x2 t2 o2
        have w2 := k1 i hgi
        obtain ⟨Z2, s2, w3, k2⟩ := w2.item x2 t2 o2 h2
        refine ⟨v1, v2, rfl, hm _ Z2 H2 s2 (k2 j (by simpa using hgj))⟩
def sPar3 (i j l : Nat) (m1 m2 m3 : En → R Dt) : En → RS := fun e => RS.ofR (m1 e) fun d1 => RS.ofR (m2 e) fun d2 => RS.ofR (m3 e) fun d3 => .nx (((e.set i d1).set j d2).set l d3)
theorem vs_par3 (i j l : Nat) {x y z : Str} {px py pz pt : Pos} {kt k2 : Nat} {pt2 : Pos} (ha : VQ X Tb C E G f1 m1 a) (hb : VQ X Tb C E G f2 m2 b) (hcc : VQ X Tb C E G f3 m3 c) (h1 : f1.t? = false) (h2 : f2.t? = false) (h3 : f3.t? = false) (hc : X.calm = true) (hN : X.N.Nodup) (hij : i ≠ j := by decide) (hil : i ≠ l := by decide) (hjl : j ≠ l := by decide) (hgi : i < G.length := by first | decide | exact of_decide_eq_true rfl) (hgj : j < G.length := by first | decide | exact of_decide_eq_true rfl) (hgl : l < G.length := by first | decide | exact of_decide_eq_true rfl)
    (hi : X.N[i]? = some x := by rfl) (hj : X.N[j]? = some y := by rfl) (hl : X.N[l]? = some z := by rfl) (hx : X.env.scope.names.lookup x = some .local := by rfl) (hy : X.env.scope.names.lookup y = some .local := by rfl) (hz : X.env.scope.names.lookup z = some .local := by rfl)
    (sa : starEach [a, b, c] X.env = (false, eval a X.env) :: starEach [b, c] X.env := by rfl) (sb : starEach [b, c] X.env = (false, eval b X.env) :: starEach [c] X.env := by rfl) (sc : starEach [c] X.env = (false, eval c X.env) :: starEach [] X.env := by rfl)
    (hw : swappedStores [.Tuple [.Name x px, .Name y py, .Name z pz] kt pt] (.Tuple [a, b, c] k2 pt2) X.env = pure (some [x, y, z]) := by rfl)
    (hs : swapsWithSole [.Tuple [.Name x px, .Name y py, .Name z pz] kt pt] (.Tuple [a, b, c] k2 pt2) pos.line X.env = pure false := by rfl) :
    VS X Tb C E f0 G (((G.set i (smF f1)).set j (smF f2)).set l (smF f3)) Gl (sPar3 i j l m1 m2 m3) (.Assign [.Tuple [.Name x px, .Name y py, .Name z pz] kt pt] (.Tuple [a, b, c] k2 pt2) pos) :=
  PS.weak (ps_par3 hc hN hi hj hl hij hil hjl hx hy hz (pa_cons ha (pa_cons hb (pa_cons hcc pa_nil sc) sb) sa) hw hs) fun D σ H _ hq => by
    obtain ⟨Z, en, w, hm⟩ := hq
    refine ⟨Z, en, w, ?_⟩
    unfold sPar3 at hm
    revert hm
    cases m1 en with
    | exc x => exact fun hm => EXC.toS w.g hm
    | bad => exact fun hm => hm
    | ok d1 =>
      intro hm v1 H1 x1 t1 o1
      obtain ⟨Z1, s1, w1, k1⟩ := w.item x1 t1 o1 h1
      refine ⟨Z1, en, w1, ?_⟩
      have hm := cont_mono s1 hm
      revert hm
      dsimp only [RS.ofR]
      cases m2 en with
      | exc x => exact fun hm => EXC.toS w1.g hm
      | bad => exact fun hm => hm
      | ok d2 =>
        intro hm v2 H2 x2 t2 o2
        obtain ⟨Z2, s2, w2, k2⟩ := w1.item2 (k1 i hgi) x2 t2 o2 h2
        refine ⟨Z2, en, w2, ?_⟩
        have hm := cont_mono s2 hm
        revert hm
        dsimp only
        cases m3 en with
        | exc x => exact fun hm => EXC.toS w2.g hm
        | bad => exact fun hm => hm
        | ok d3 =>
          intro hm v3 H3 x3 t3 o3
          obtain ⟨Z3, s3, w3, k3⟩ := w2.item2 (k2 j (by simpa using hgj)) x3 t3 o3 h3
          exact ⟨v1, v2, v3, rfl, hm _ Z3 H3 s3 (k3 l (by simpa using hgl))⟩
/-! ### with draws -/
def sParM2 (i j : Nat) (ml : En → R (List Dt × En)) : En → RS := fun e => RS.ofM (ml e) fun ds e => match ds with
  | [d1, d2] => .nx ((e.set i d1).set j d2)
  | _ => .bad
theorem vs_parM2 (i j : Nat) {x y : Str} {px py pt : Pos} {kt k2 : Nat} {pt2 : Pos} {ml : En → R (List Dt × En)} (ha : VML X Tb C G ml [a, b]) (hc : X.calm = true) (hN : X.N.Nodup) (hij : i ≠ j := by decide) (hgi : i < G.length := by first | decide | exact of_decide_eq_true rfl) (hgj : j < G.length := by first | decide | exact of_decide_eq_true rfl)
    (hi : X.N[i]? = some x := by rfl) (hj : X.N[j]? = some y := by rfl) (hx : X.env.scope.names.lookup x = some .local := by rfl) (hy : X.env.scope.names.lookup y = some .local := by rfl)
    (hw : swappedStores [.Tuple [.Name x px, .Name y py] kt pt] (.Tuple [a, b] k2 pt2) X.env = pure (some [x, y]) := by rfl)
    (hs : swapsWithSole [.Tuple [.Name x px, .Name y py] kt pt] (.Tuple [a, b] k2 pt2) pos.line X.env = pure false := by rfl) :
    VS X Tb C E f0 G ((G.set i .z).set j .z) Gl (sParM2 i j ml) (.Assign [.Tuple [.Name x px, .Name y py] kt pt] (.Tuple [a, b] k2 pt2) pos) :=
  PS.weak (ps_par hc hN hi hj hij hx hy ha hw hs) fun D σ H _ hq => by
    refine tM_st hq fun ds vs Z1 e1 H1 w1 r1 hm => ?_
    revert hm r1
    split
    · rename_i d1 d2
      intro r1 hm
      obtain ⟨v1, vs1, rfl, q1, v2, vs2, rfl, q2, q3⟩ := r1
      cases q3
      exact ⟨v1, v2, rfl, hm _ _ _ (Sb.refl _) ((w1.setZ hgi q1).setZ (by simpa using hgj) q2)⟩
    · exact fun _ hm => hm.elim
def sParM3 (i j l : Nat) (ml : En → R (List Dt × En)) : En → RS := fun e => RS.ofM (ml e) fun ds e => match ds with
  | [d1, d2, d3] => .nx (((e.set i d1).set j d2).set l d3)
  | _ => .bad
theorem vs_parM3 (i j l : Nat) {x y z : Str} {px py pz pt : Pos} {kt k2 : Nat} {pt2 : Pos} {ml : En → R (List Dt × En)} (ha : VML X Tb C G ml [a, b, c]) (hc : X.calm = true) (hN : X.N.Nodup) (hij : i ≠ j := by decide) (hil : i ≠ l := by decide) (hjl : j ≠ l := by decide) (hgi : i < G.length := by first | decide | exact of_decide_eq_true rfl) (hgj : j < G.length := by first | decide | exact of_decide_eq_true rfl) (hgl : l < G.length := by first | decide | exact of_decide_eq_true rfl)
    (hi : X.N[i]? = some x := by rfl) (hj : X.N[j]? = some y := by rfl) (hl : X.N[l]? = some z := by rfl) (hx : X.env.scope.names.lookup x = some .local := by rfl) (hy : X.env.scope.names.lookup y = some .local := by rfl) (hz : X.env.scope.names.lookup z = some .local := by rfl)
    (hw : swappedStores [.Tuple [.Name x px, .Name y py, .Name z pz] kt pt] (.Tuple [a, b, c] k2 pt2) X.env = pure (some [x, y, z]) := by rfl)
    (hs : swapsWithSole [.Tuple [.Name x px, .Name y py, .Name z pz] kt pt] (.Tuple [a, b, c] k2 pt2) pos.line X.env = pure false := by rfl) :
    VS X Tb C E f0 G (((G.set i .z).set j .z).set l .z) Gl (sParM3 i j l ml) (.Assign [.Tuple [.Name x px, .Name y py, .Name z pz] kt pt] (.Tuple [a, b, c] k2 pt2) pos) :=
  PS.weak (ps_par3 hc hN hi hj hl hij hil hjl hx hy hz ha hw hs) fun D σ H _ hq => by
    refine tM_st hq fun ds vs Z1 e1 H1 w1 r1 hm => ?_
    revert hm r1
    split
    · rename_i d1 d2 d3
      intro r1 hm
      obtain ⟨v1, vs1, rfl, q1, v2, vs2, rfl, q2, v3, vs3, rfl, q3, q4⟩ := r1
      cases q4
      exact ⟨v1, v2, v3, rfl, hm _ _ _ (Sb.refl _) (((w1.setZ hgi q1).setZ (by simpa using hgj) q2).setZ (by simpa using hgl) q3)⟩
    · exact fun _ hm => hm.elim
end
end VL
namespace VL
open PySem PySem.Spec PyProof.Rows L2
section
variable {X : Cx} {K : Kf} {Tb : Tbs} {C : Cn} {E : XK} {G : List SM} {fl fa fb f0 : Fl} {a e e2 tg : Expr} {es : List Expr} {ma : En → R Dt} {pos : Pos}
/-! ### built-in calls over lists of a known length -/
theorem nq_callB {x : Str} {id : String} {p : Pos} {t : Bool} {n : Nat} {f : List Dt → Option Dt} {ml : En → R (List Dt)} {r : List V → Hp → VK → Prop} (hc : CallR X (.builtin id) r) (hd : CallD X.K f0 f r) (hm : X.mg x = none) (ha : VAn X Tb C E G t n ml (e :: es)) (hg : L2.Gl X x := by rfl) (hv : bootBuiltins x = some (.builtin id) := by decide +kernel)
    (hn : x ≠ "__name__" := by decide) (hdb : (x == ("__debug__" : Str)) = false := by decide)
    (he : starEach (e :: es) X.env = (false, eval e X.env) :: starEach es X.env := by rfl) (hpl : (backTo pos (starEach es X.env)).any (·.1) = false := by rfl) : VQ X Tb C E G (Fl.on t f0) (qC f ml) (.Call (.Name x p) (e :: es) [] pos) := vq_callB hc hd hg hm hv ha.va hn hdb he hpl
theorem nq_callT {x : Str} {T : String} {p : Pos} {t : Bool} {n : Nat} {f : List Dt → Option Dt} {ml : En → R (List Dt)} {r : List V → Hp → VK → Prop} (hc : CallR X (.type T) r) (hd : CallD X.K f0 f r) (hm : X.mg x = none) (ha : VAn X Tb C E G t n ml (e :: es)) (hg : L2.Gl X x := by rfl) (hv : bootBuiltins x = some (.type T) := by decide +kernel)
    (hn : x ≠ "__name__" := by decide) (hdb : (x == ("__debug__" : Str)) = false := by decide)
    (he : starEach (e :: es) X.env = (false, eval e X.env) :: starEach es X.env := by rfl) (hpl : (backTo pos (starEach es X.env)).any (·.1) = false := by rfl) : VQ X Tb C E G (Fl.on t f0) (qC f ml) (.Call (.Name x p) (e :: es) [] pos) := vq_callT hc hd hg hm hv ha.va hn hdb he hpl
theorem nm_callB {x : Str} {id : String} {p : Pos} {n : Nat} {f : List Dt → Option Dt} {ml : En → R (List Dt × En)} {r : List V → Hp → VK → Prop} (hc : CallR X (.builtin id) r) (hd : CallD X.K f0 f r) (hm : X.mg x = none) (ha : VMLn X Tb C G n ml (e :: es)) (hf : f0.t? = false := by rfl) (hg : L2.Gl X x := by rfl) (hv : bootBuiltins x = some (.builtin id) := by decide +kernel)
    (hn : x ≠ "__name__" := by decide) (hdb : (x == ("__debug__" : Str)) = false := by decide)
    (he : starEach (e :: es) X.env = (false, eval e X.env) :: starEach es X.env := by rfl) (hpl : (backTo pos (starEach es X.env)).any (·.1) = false := by rfl) : VM X Tb C G (mC f ml) (.Call (.Name x p) (e :: es) [] pos) := vm_callB hc hd hg hm hv ha.va hf hn hdb he hpl
theorem nm_callT {x : Str} {T : String} {p : Pos} {n : Nat} {f : List Dt → Option Dt} {ml : En → R (List Dt × En)} {r : List V → Hp → VK → Prop} (hc : CallR X (.type T) r) (hd : CallD X.K f0 f r) (hm : X.mg x = none) (ha : VMLn X Tb C G n ml (e :: es)) (hf : f0.t? = false := by rfl) (hg : L2.Gl X x := by rfl) (hv : bootBuiltins x = some (.type T) := by decide +kernel)
    (hn : x ≠ "__name__" := by decide) (hdb : (x == ("__debug__" : Str)) = false := by decide)
    (he : starEach (e :: es) X.env = (false, eval e X.env) :: starEach es X.env := by rfl) (hpl : (backTo pos (starEach es X.env)).any (·.1) = false := by rfl) : VM X Tb C G (mC f ml) (.Call (.Name x p) (e :: es) [] pos) := vm_callT hc hd hg hm hv ha.va hf hn hdb he hpl
theorem nq_mt {T id : String} {name : Str} {t : Bool} {n : Nat} {apos : Pos} {f : Dt → List Dt → Option Dt} {ml : En → R (List Dt)} {r : V → List V → Hp → VK → Prop} (pa : PlainAttrs T) (slot : Slot T name id) (hty : typeOf (.builtin id) = pure (.type "method_descriptor")) (hm : MtR X id r) (hd : MtD X.K T f0 f r) (ho : VQ X Tb C E G fa ma a) (ha : VAn X Tb C E G t n ml (e :: es))
    (hbase : attributeBase a name X.env (eval a X.env) = eval a X.env := by rfl)
    (hfew : ((backTo pos (starEach (e :: es) X.env)).all (fun x => !x.1) && (backToKw pos (keywordEach [] X.env)).all (fun x => x.1.isSome)
      && decide ((e :: es).length + ([] : List Keyword).length + (if ([] : List Keyword).isEmpty then 0 else 1) < 30)) = true := by rfl)
    (hline : (apos.endLine == pos.line) = true := by rfl) (hs : starEach (e :: es) X.env = (false, eval e X.env) :: starEach es X.env := by rfl) (hplain : (backTo pos (starEach es X.env)).any (·.1) = false := by rfl) :
    VQ X Tb C E G (Fl.on (fa.t? || t) f0) (qM T f ma ml) (.Call (.Attribute a name apos) (e :: es) [] pos) := vq_mt pa slot hty hm hd ho ha.va hbase hfew hline hs hplain
theorem ni_range1 {p : Pos} {t : Bool} {n : Nat} {ml : En → R (List Dt)} (hm : X.mg "range" = none) (ha : VAn X Tb C E G t n ml [e]) (hg : L2.Gl X "range" := by rfl) (hs : starEach [e] X.env = [(false, eval e X.env)] := by rfl) : VI X Tb C E G (iOf rg1 ml) tg (.Call (.Name "range" p) [e] [] pos) := vi_range1 hg hm ha.va hs
theorem ni_range2 {p : Pos} {t : Bool} {n : Nat} {ml : En → R (List Dt)} (hm : X.mg "range" = none) (ha : VAn X Tb C E G t n ml [e, e2]) (hg : L2.Gl X "range" := by rfl) (hs : starEach [e, e2] X.env = [(false, eval e X.env), (false, eval e2 X.env)] := by rfl) (hpl : starEach [e2] X.env = [(false, eval e2 X.env)] := by rfl) : VI X Tb C E G (iOf rg2 ml) tg (.Call (.Name "range" p) [e, e2] [] pos) := vi_range2 hg hm ha.va hs hpl
theorem nim_range1 {p : Pos} {n : Nat} {ml : En → R (List Dt × En)} (hm : X.mg "range" = none) (ha : VMLn X Tb C G n ml [e]) (hg : L2.Gl X "range" := by rfl) (hs : starEach [e] X.env = [(false, eval e X.env)] := by rfl) : VIM X Tb C G (imOf rg1 ml) tg (.Call (.Name "range" p) [e] [] pos) := vim_range1 hg hm ha.va hs
theorem nim_range2 {p : Pos} {n : Nat} {ml : En → R (List Dt × En)} (hm : X.mg "range" = none) (ha : VMLn X Tb C G n ml [e, e2]) (hg : L2.Gl X "range" := by rfl) (hs : starEach [e, e2] X.env = [(false, eval e X.env), (false, eval e2 X.env)] := by rfl) (hpl : starEach [e2] X.env = [(false, eval e2 X.env)] := by rfl) : VIM X Tb C G (imOf rg2 ml) tg (.Call (.Name "range" p) [e, e2] [] pos) := vim_range2 hg hm ha.va hs hpl
theorem ni_zip {p tpos : Pos} {elts : List Expr} {kk n : Nat} {ml : En → R (List Dt)} (hm : X.mg "zip" = none) (ha : VAn X Tb C E G false n ml [e, e2]) (hg : L2.Gl X "zip" := by rfl)
    (hs : starEach [e, e2] X.env = (false, eval e X.env) :: starEach [e2] X.env := by rfl) (hpl : (backTo pos (starEach [e2] X.env)).any (·.1) = false := by rfl) : VI X Tb C E G (iOf zipO ml) (.Tuple elts kk tpos) (.Call (.Name "zip" p) [e, e2] [] pos) := vi_zip hg hm ha.va hs hpl
/-- the same, of any flag, told -/
theorem vq_as {f g : Fl} {m : En → R Dt} (h : VQ X Tb C E G f m e) (hf : f = g := by rfl) : VQ X Tb C E G g m e := hf ▸ h
end
/-! ### blocks that never go on -/
def NoNx (m : En → RS) : Prop := ∀ e e', m e ≠ .nx e'
theorem nx1 {m n : En → RS} (h : NoNx m) : NoNx (sSeq m n) := fun e e' => by
  unfold sSeq
  cases hm : m e with
  | nx e2 => exact (h _ _ hm).elim
  | _ => intro z; cases z
theorem nx2 {m n : En → RS} (h : NoNx n) : NoNx (sSeq m n) := fun e e' => by
  unfold sSeq
  cases hm : m e with
  | nx e2 => exact h _ _
  | _ => intro z; cases z
theorem nx_ret {m : En → R Dt} : NoNx (sRet m) := fun e e' => by
  unfold sRet
  cases m e with
  | _ => intro z; cases z
theorem nx_retM {m : En → R (Dt × En)} : NoNx (sRetM m) := fun e e' => by
  unfold sRetM
  cases m e with
  | _ => intro z; cases z
theorem nx_retN : NoNx sRetN := fun e e' z => by cases z
theorem nx_raise {x : Str} : NoNx (sRaise x) := fun e e' z => by cases z
theorem nx_bk : NoNx sBk := fun e e' z => by cases z
theorem nx_ct : NoNx sCt := fun e e' z => by cases z
theorem nx_kill {i : Nat} {m : En → RS} (h : NoNx m) : NoNx (sKill i m) := fun e e' => h _ _
theorem nx_if {c : En → R Bool} {m n : En → RS} (h1 : NoNx m) (h2 : NoNx n) : NoNx (sIf c m n) := fun e e' => by
  unfold sIf
  cases c e with
  | ok k =>
    cases k with
    | true => exact h1 _ _
    | false => exact h2 _ _
  | _ => intro z; cases z
theorem nx_ifM {c : En → R (Bool × En)} {m n : En → RS} (h1 : NoNx m) (h2 : NoNx n) : NoNx (sIfM c m n) := fun e e' => by
  unfold sIfM
  cases c e with
  | ok p =>
    obtain ⟨k, e2⟩ := p
    cases k with
    | true => exact h1 _ _
    | false => exact h2 _ _
  | _ => intro z; cases z
end VL
namespace VL
open PySem PySem.Spec PyProof.Rows L2
/-! ### tables of the defs that make lambdas -/
theorem code_of {K : Kf} {x : Str} {q : Str} {cdv : Value} (h : CdOk K (He.ga K x) q cdv) : cdv = .ref (He.codeOf K (x, none)) := by
  obtain ⟨h1, oc, od, osl, fd, lk, e⟩ := h
  obtain ⟨c, rfl⟩ := He.codeIn_ref h1
  rw [He.codeOf_eq (p := (x, none)) lk e]
def tq (s : Str) : Str := (envOfC s ⟨.function, [], false, false, []⟩ 0 0 .none).qual ++ "<lambda>"
def tabsK (K : Kf) (tf : List He.Defn) : Tbs := tf.map fun d => ((He.cT K d).2, tq d.1)
theorem tab_in {K : Kf} {tf : List He.Defn} {d : He.Defn} (h : d ∈ tf) : ((He.cT K d).2, tq d.1) ∈ tabsK K tf := List.mem_map.mpr ⟨d, h, rfl⟩
theorem tab_ct {K : Kf} {tf : List He.Defn} {d : He.Defn} (h : d ∈ tf) : He.cT K d ∈ tf.map (He.cT K) := List.mem_map.mpr ⟨d, h, rfl⟩
theorem nodup_inj {α β : Type} {f : α → β} : ∀ {l : List α}, (l.map f).Nodup → ∀ a ∈ l, ∀ b ∈ l, f a = f b → a = b
  | [], _, a, ha, _, _, _ => by cases ha
  | x :: l, h, a, ha, b, hb, e => by
    rw [List.map_cons, List.nodup_cons] at h
    rcases List.mem_cons.mp ha with rfl | ha' <;> rcases List.mem_cons.mp hb with rfl | hb'
    · rfl
    · exact (h.1 (by rw [e]; exact List.mem_map.mpr ⟨b, hb', rfl⟩)).elim
    · exact (h.1 (by rw [← e]; exact List.mem_map.mpr ⟨a, ha', rfl⟩)).elim
    · exact nodup_inj h.2 a ha' b hb' e
theorem tab_one {K : Kf} {tf : List He.Defn} {d : He.Defn} (nd : (tf.map fun p => (He.cT K p).2).Nodup) (h : d ∈ tf) : ∀ p ∈ tabsK K tf, p.1 = (He.cT K d).2 → p.2 = tq d.1 := fun p hp e => by
  obtain ⟨d', hd, rfl⟩ := List.mem_map.mp hp
  rw [nodup_inj nd d' hd d h e]
theorem bp_lam {X : Cx} {A : Around} {outer : List Env} {s : Shared} {H : Hp} {E : XK} {scope : Scope} {f c' : Addr} {k : Nat} (hr : Room k (A.deeper (LamX.lamEnv X scope s.heap.objs.size f c'))) : Bp GdT (LamX.lamCx X A outer s H E scope f c') E k :=
  ⟨rfl, takes_of rfl rfl rfl rfl, passes_of rfl, passes_call (takes_of rfl rfl rfl rfl) (fun _ _ _ _ h => h), hr, trivial⟩
theorem huL {A : Around} {k : Nat} (h : Room k A) : A.units + 100 < cLine := by have := h.un; omega
theorem fnP_bad {Gd : Around → Prop} {P : Program} {w : World} {K : Kf} {mg : Str → Option Value} {base : Heap} {Tb : Tbs} {f0 : Fl} {k : Nat} {f : Addr} {fd : FuncData} {ps : List Str} (n : Nat) {m : List Dt → R Dt} (hn : ps.length = n) (hm : ∀ ds, m ds = .bad) : FnP Gd P w K mg base k f fd ps (spF K Tb f0 n m) where
  len := fun vs H Q E h => by
    obtain ⟨ds, S, h1, h2, _⟩ := h
    rw [h2.len, h1, hn]
  run := fun A outer s H args us vs Q E _ _ _ _ _ h => by
    obtain ⟨ds, S, h1, h2, h3, h4, h5⟩ := h
    rw [hm] at h5
    exact h5.elim
/-- a way that is never gone -/
def sBad : En → RS := fun _ => .bad
theorem vss_bad {X : Cx} {Tb : Tbs} {C : Cn} {E : XK} {f0 : Fl} {G G' Gl : List SM} : VSs X Tb C E f0 G G' Gl sBad [] := PSs.weak (vss_nil (Tb := Tb) (C := C) (E := E) (f0 := f0) (Gl := Gl) (G := G)) fun D σ H _ hq => by
  obtain ⟨Z, en, w, hm⟩ := hq
  exact hm.elim
theorem huS {u : Nat} (h : u + 100 < cLine) : u + 3 + 64 < cLine := by omega
theorem huS5 {u : Nat} (h : u + 100 < cLine) : u + 3 + 65 < cLine := by omega
theorem tabs_nil {K : Kf} {tf : List He.Defn} {H : Hp} (h : ∀ p ∈ tf.map (He.cT K), H p.2 = some (.tbl #[])) : LamX.Tabs (tabsK K tf) H := fun p hp => by
  obtain ⟨d, hd, rfl⟩ := List.mem_map.mp hp
  refine ⟨#[], h _ (tab_ct hd), ?_, ?_⟩
  · trivial
  · intro p cv h
    cases h
end VL
namespace VL
open PySem PySem.Spec PyProof.Rows L2
/-! ### enumerate of a list or a tuple -/
theorem meets_enum1 {v : Value} {o : Obj} {H : Heap → Prop} (B : Begins v o H) :
    Meets (Builtin.«enumerate.__new__» ⟨[.type "enumerate", v], []⟩) (fun _ R s => H s.heap ∧
      R (.ok (.ret (.ref (s.heap.push o).objs.size))) { s with heap := (s.heap.push o).push { cls := .type "enumerate", data := .fields #[.none, .bool false, .ref s.heap.objs.size, rawInt 0, .none, .none] } }) :=
  .of_wp fun prog w A R s h => by
    obtain ⟨hp, g, d, tk, os⟩ := s; obtain ⟨h1, h⟩ := h
    have hsub := sub_enumerate
    have q1 : ∀ {A' : Around} {E : Value → Shared → Prop} {Q : Value → Shared → Prop}, Q (.ref hp.objs.size) ⟨hp.push o, g, d, tk, os⟩ → wpAny (model prog w) A' (pyIter v) Q E ⟨hp, g, d, tk, os⟩ :=
      fun q => B.iter prog w _ _ ⟨hp, g, d, tk, os⟩ _ h1 q
    wp_walk using q1
    refine wpAny_stack_any fun st => wpAny_pure ?_
    split
    · rename_i c _ _ _ _ _
      cases (c == Value.type "enumerate")
      · wp_walk using q1
        exact ⟨_, rfl, h⟩
      · wp_walk using q1
        exact ⟨_, rfl, h⟩
    · wp_walk using q1
      exact ⟨_, rfl, h⟩
theorem enum_begins1 {prog : Program} {w : World} {A : Around} {E : Value → Shared → Prop} {s : Shared} {v : Value} {o : Obj} {H : Heap → Prop} {Q : Value → Shared → Prop} (B : Begins v o H) (h1 : H s.heap)
    (h : ∀ h', IsEnum h' (s.heap.objs.size + 1) s.heap.objs.size 0 .none → h'.get? s.heap.objs.size = some o → h'.objs.size = s.heap.objs.size + 2 →
      (∀ b o, s.heap.get? b = some o → h'.get? b = some o) → Q (.ref (s.heap.objs.size + 1)) { s with heap := h' }) :
    wpAny (model prog w) A (call (.type "enumerate") [v]) Q E s := by
  refine callType_new PySem.F.called_enumerate (by decide) (PySem.F.typeCall_enumerate_1 _) (PySem.F.newCall_enumerate_1 _) (fun obj => PySem.F.args_object_init_2 obj _) PySem.F.entry_enumerate_new
    (meets_enum1 B) ⟨h1, ?_⟩
  have hz : (s.heap.push o).objs.size = s.heap.objs.size + 1 := Heap.size_push ..
  show _ ∧ _
  rw [hz]
  have he : IsEnum ((s.heap.push o).push { cls := .type "enumerate", data := .fields #[.none, .bool false, .ref s.heap.objs.size, rawInt 0, .none, .none] }) (s.heap.objs.size + 1) s.heap.objs.size 0 .none := by
    have := Heap.get?_push_size (s.heap.push o) (o := { cls := .type "enumerate", data := .fields #[.none, .bool false, .ref s.heap.objs.size, rawInt 0, .none, .none] }) rfl
    rw [hz] at this; exact this
  refine ⟨⟨_, he, rfl⟩, h _ he (Heap.get?_push_of_some _ (Heap.get?_push_size _ B.free)) (by rw [Heap.size_push, hz]) fun b o x => Heap.get?_push_of_some _ (Heap.get?_push_of_some _ x)⟩
def IteM (K : Kf) (t : Bool) (a : Addr) : It :=
  ⟨fun i H => ∃ (xs : List V), sSq t K H a xs ∧ i < xs.length,
    fun i H v H' => ∃ T x, v = .ref T ∧ H T = none ∧ H' = upd H T (.tup [.int (i : Nat), x]) ∧ ∀ xs, sSq t K H a xs → xs[i]? = some x,
    fun i H => ∃ xs : List V, sSq t K H a xs ∧ i = xs.length⟩
theorem turn_enumM {P : Program} {w : World} {K : Kf} {elts : List Expr} {kk : Nat} {tpos : Pos} {a e it : Addr} (t : Bool) (hei : e ≠ it) (hea : e ≠ a) :
    Turn P w K (.Tuple elts kk tpos) (IteM K t a) [e, it] e (fun i h => (∃ old, IsEnum h e it (0 + (i : Int)) old) ∧ sIt t h it a i) where
  mem := by simp
  obj := fun i h st c hc => by
    obtain ⟨⟨old, he⟩, h1⟩ := st
    have e' : c = e ∨ c = it := by simpa using hc
    rcases e' with q | q
    · rw [q]; exact ⟨_, he, fun v q => nomatch q⟩
    · rw [q]; exact h1.obj
  keep := fun i h h' st k => by
    obtain ⟨⟨old, he⟩, h1⟩ := st
    exact ⟨⟨old, k e (by simp) _ he⟩, h1.at fun o q => k it (by simp) o q⟩
  item := by
    intro X hP hw hK hc i pins s σ H E I hf st hg
    subst hP hw hK
    obtain ⟨⟨old, he⟩, h1⟩ := st
    obtain ⟨xs, hqx, hx⟩ := hg
    obtain ⟨its, rv, p, _⟩ := hqx.get I
    have l1 := rv.length
    have hne1 := h1.ne p
    have W := GoesN.enumFrom (elts := elts) (x1 := kk) (pos := tpos) 0 (sDraws (prog := X.prog) (w := X.w) (A := X.A.in1) t (I.ok.hd hc) it a hne1 its.toArray) e hei (by simp only [List.mem_cons, List.not_mem_nil, or_false]; exact fun q => q.elim hei hea) (by simp)
    refine wpAny_mono (W.goes i s (fun u s2 => ∃ x H', Inv X pins σ H' s2 ∧ RelV x u ∧ (IteM X.K t a).yld i H x H' ∧ ((∃ old, IsEnum s2.heap e it (0 + ((i + 1 : Nat) : Int)) old) ∧ sIt t s2.heap it a (i + 1)) ∧ ∀ b ∈ [e, it], H' b = none) E (by simp; omega) ⟨⟨old, he⟩, h1, p⟩ (fun v h' tk hY st' hk htk => ?_)) (fun r s2 h => h) (fun e s2 h => h)
    obtain ⟨T, tt, u, rfl, hnew, hu, o, ho, hc1, n, hd⟩ := hY
    obtain ⟨z', h1'⟩ := st'
    have hix : i < its.length := by omega
    have eu : u = its[i] := by
      have := hu
      simp [hix] at this
      exact this.symm
    subst eu
    obtain ⟨u, q1, ru⟩ := rv.get (List.getElem?_eq_getElem hx)
    rw [List.getElem?_eq_getElem hix] at q1
    cases q1
    have hTn : H T = none := I.hok.fresh hnew
    have new : ObjOk X.prog X.w (upd H T (.tup [.int (i : Nat), xs[i]])) h' T (.tup [.int (i : Nat), xs[i]]) :=
      ⟨by show 2 ≤ sizeLine; decide, [.int (0 + (i : Int)) tt, its[i]], .cons ⟨tt, by rw [Int.zero_add]⟩ (.cons ru .nil), ⟨o, ho, hc1, n, hd⟩⟩
    have I1 : Inv X pins σ (upd H T (.tup [.int (i : Nat), xs[i]])) { s with heap := h', toks := tk } :=
      I.turnedNew (ch := [e, it]) (fun c o hb q => hk c o (fun hm => hb (by
        have e' : c = e ∨ c = it := by simpa using hm
        rcases e' with q | q <;> simp [q])) q) hf hnew new
    refine ⟨.ref T, _, I1, rfl, ⟨T, _, rfl, hTn, rfl, fun l hl => by rw [hl.inj I hqx]; exact List.getElem?_eq_getElem hx⟩, ⟨z', h1'.1⟩, fun c hcm => ?_⟩
    have hlt : c < s.heap.objs.size := by
      have e' : c = e ∨ c = it := by simpa using hcm
      rcases e' with q | q
      · rw [q]; exact Heap.lt_size he
      · rw [q]; obtain ⟨_, e1, _⟩ := h1.obj; exact Heap.lt_size e1
    rw [upd_ne (Nat.ne_of_lt (Nat.lt_of_lt_of_le hlt hnew))]
    exact (hf c hcm).1
  done := by
    intro X hP hw hK hc i pins s σ H E I hf st hg
    subst hP hw hK
    obtain ⟨⟨old, he⟩, h1⟩ := st
    obtain ⟨xs, hqx, rfl⟩ := hg
    obtain ⟨its, rv, p, _⟩ := hqx.get I
    have l1 := rv.length
    have hne1 := h1.ne p
    have W := GoesN.enumFrom (elts := elts) (x1 := kk) (pos := tpos) 0 (sDraws (prog := X.prog) (w := X.w) (A := X.A.in1) t (I.ok.hd hc) it a hne1 its.toArray) e hei (by simp only [List.mem_cons, List.not_mem_nil, or_false]; exact fun q => q.elim hei hea) (by simp)
    have en : xs.length = its.toArray.size := by simp [l1]
    rw [en] at h1 he
    exact W.stops s (fun s1 => Inv X pins σ H s1) E ⟨⟨old, he⟩, h1, p⟩ fun h' tk hk htk => I.turnedL (ch := [e, it]) (fun c o hb q => hk c o (fun hm => hb (by
        have e' : c = e ∨ c = it := by simpa using hm
        rcases e' with q | q <;> simp [q])) q) hf
  self := fun A i s Q E st h => by
    obtain ⟨⟨old, he⟩, _⟩ := st
    exact wpAny_pyIter_enum he h
def iEnumM (K : Kf) (ta : TA) : TI := fun σ H R => ta σ H fun vs H1 => ∃ a xs t, vs = [.ref a] ∧ sSq t K H1 a xs ∧ R (IteM K t a) H1
theorem pi_enumM {X : Cx} {e : Expr} {ta : TA} {p pos tpos : Pos} {elts : List Expr} {kk : Nat} (hg : Gl X "enumerate") (hm : X.mg "enumerate" = none) (ha : PA X [e] ta) (hs : starEach [e] X.env = [(false, eval e X.env)] := by rfl) :
    PI X (.Tuple elts kk tpos) (.Call (.Name "enumerate" p) [e] [] pos) (iEnumM X.K ta) := by
  refine ⟨fun pins s σ H R I h => ?_⟩
  refine Call_ (ld_blt I hg hm boot_enumerate (PyProof.Rows.callWith_type1 (thn (ha.run pos pins s σ H _ I h) fun us s1 ⟨vs, H1, I1, r1, q1⟩ => ?_) hs rfl))
  obtain ⟨a, xs, t, ex, hq, q⟩ := q1
  subst ex
  cases r1 with
  | cons r rr =>
    cases rr
    cases r
    obtain ⟨its, rv, p', hz, la⟩ := hq.get I1
    refine enum_begins1 (sBegins t a its.toArray) p' fun h' he hit hsz hk => wpAny_pyIter_enum he ?_
    have I2 : Inv X pins σ H1 { s1 with heap := h' } := I1.kept (t' := s1.toks) hk
    refine ⟨s1.heap.objs.size + 1, [s1.heap.objs.size + 1, s1.heap.objs.size], _, _, H1, rfl, I2, turn_enumM (e := s1.heap.objs.size + 1) (it := s1.heap.objs.size) t (Nat.succ_ne_self _) (Nat.ne_of_gt (Nat.lt_succ_of_lt la)), ⟨⟨.none, he⟩, sIt_of hit⟩, fun b hb => ?_, q⟩
    have e' : b = s1.heap.objs.size + 1 ∨ b = s1.heap.objs.size := by simpa using hb
    have hle : s1.heap.objs.size ≤ b := by
      rcases e' with z | z
      · rw [z]; exact Nat.le_add_right _ _
      · rw [z]; exact Nat.le_refl _
    exact I1.fpOk hle (I1.hok.fresh hle)
def enumL (ds : List Dt) : List Dt := (List.range ds.length).map fun (i : Nat) => .tuple [.int (i : Nat), ds.getD i .none]
theorem itok_enum {K : Kf} {S : Hp} {a : Addr} {t : Bool} {xs : List V} {ds : List Dt} (h1 : sSq t K S a xs) (r1 : RVs K S ds xs) (hl : xs.length ≤ sizeLine) : ItOk K S (IteM K t a) (enumL ds) where
  len := by
    have := r1.len
    unfold enumL
    rw [List.length_map, List.length_range]
    omega
  go := fun i H s hi => by
    have l1 := r1.len
    have hi2 : i < ds.length := by
      unfold enumL at hi
      rwa [List.length_map, List.length_range] at hi
    refine ⟨⟨xs, h1.sb s, by omega⟩, fun x H' hy => ?_⟩
    obtain ⟨T, x, rfl, hT, rfl, f1⟩ := hy
    obtain ⟨v1, e1, e2⟩ := r1.get (List.getElem?_eq_getElem hi2)
    have g1 := f1 xs (h1.sb s)
    rw [e1] at g1
    cases g1
    refine ⟨same_upd hT, .tuple [.int (i : Nat), ds[i]], ?_, out_tup s hT ⟨.int (i : Nat), _, rfl, rfl, x, _, rfl, e2, rfl⟩⟩
    unfold enumL
    rw [List.getElem?_map, List.getElem?_range hi2, Option.map_some, List.getD_eq_getElem?_getD, List.getElem?_eq_getElem hi2]
    rfl
  stop := fun i H s hi => by
    have l1 := r1.len
    refine ⟨xs, h1.sb s, ?_⟩
    rw [hi]
    unfold enumL
    rw [List.length_map, List.length_range, l1]
section
variable {X : Cx} {Tb : Tbs} {C : Cn} {E : XK} {G : List SM} {fl : Fl} {e e2 : Expr} {m m2 : En → R Dt} {pos : Pos}
def enumO : List Dt → Option (List Dt)
  | [d] => (seqD d).map enumL
  | _ => none
theorem vi_enum {p tpos : Pos} {elts : List Expr} {kk : Nat} {ml : En → R (List Dt)} (hg : Gl X "enumerate") (hm : X.mg "enumerate" = none) (ha : VA X Tb C E G false ml [e])
    (hs : starEach [e] X.env = [(false, eval e X.env)] := by rfl) :
    VI X Tb C E G (iOf enumO ml) (.Tuple elts kk tpos) (.Call (.Name "enumerate" p) [e] [] pos) := PI.weak (pi_enumM hg hm (PA.fit ha) hs) fun σ H Q fit0 hq => fun _ => by
  obtain ⟨Z, en, w, hm⟩ := hq
  refine ⟨Z, en, w, ?_⟩
  unfold iOf at hm
  revert hm
  cases ml en with
  | exc x => exact fun hm => hm
  | bad => exact fun hm => hm
  | ok ds =>
    dsimp only [R.bind]
    cases hf : enumO ds with
    | none => exact fun hm => hm.elim
    | some ds' =>
      intro hm vs H1 x1 t1 o1 fit1
      unfold enumO at hf
      split at hf
      · rename_i d1
        rw [Option.map_eq_some_iff] at hf
        obtain ⟨da, f1, rfl⟩ := hf
        obtain ⟨y1, ys1, rfl, r1, r3⟩ := o1
        cases r3
        obtain ⟨a, xs, ta, rfl, s1, q1⟩ := seq_sq f1 r1
        have hl : xs.length ≤ sizeLine := by
          have s3 := s1.sb (nw_sub Z H H1)
          cases ta with
          | true =>
            rcases s3 with h4 | ⟨o, its, n, _, _, _, hz, r⟩
            · exact fit1 a xs (.inr h4)
            · rw [r.length]; simpa using hz
          | false =>
            rcases s3 with h4 | ⟨o, its, n, _, _, _, _, hz, r⟩
            · exact fit1 a xs (.inl h4)
            · rw [r.length]; simpa using hz
        exact ⟨a, xs, ta, rfl, s1.sb (nw_sub _ _ _), hm _ H1 x1 t1 (itok_enum s1 q1 hl)⟩
      · cases hf
end
/-! ### t[::-1] -/
theorem adjust_rev (n : Nat) : Builtin.Slice.sliceAdjust none none (-1) (n : Int) = ((n : Int) - 1, -1) := by
  unfold Builtin.Slice.sliceAdjust
  rfl
theorem places_rev (n : Nat) : Builtin.Slice.slicePlaces ((n : Int) - 1) (-1) (-1) = n := by
  unfold Builtin.Slice.slicePlaces
  rw [if_neg (by decide)]
  by_cases h : (n : Int) - 1 > -1
  · rw [if_pos h]
    have : ((n : Int) - 1 - -1 - 1) / (- -1) + 1 = n := by
      rw [show (- -1 : Int) = 1 from rfl, Int.ediv_one]
      omega
    rw [this]
    rfl
  · rw [if_neg h]
    have : n = 0 := by omega
    rw [this]
    rfl
theorem pick_rev (xs : Array Value) : ((List.range xs.size).filterMap fun (m : Nat) => xs[((((xs.size : Nat) : Int) - 1) + (m : Int) * (-1)).toNat]?).toArray = xs.toList.reverse.toArray := by
  congr 1
  have key : ∀ n, n ≤ xs.size → ((List.range n).filterMap fun (m : Nat) => xs[((((xs.size : Nat) : Int) - 1) + (m : Int) * (-1)).toNat]?) = (xs.toList.drop (xs.size - n)).reverse := by
    intro n
    induction n with
    | zero =>
      intro _
      rw [List.drop_of_length_le (by simp)]
      rfl
    | succ n ih =>
      intro hn
      rw [List.range_succ, List.filterMap_append, ih (by omega)]
      have e1 : ((((xs.size : Nat) : Int) - 1) + (n : Int) * (-1)).toNat = xs.size - (n + 1) := by omega
      have lt : xs.size - (n + 1) < xs.size := by omega
      have e2 : ([n].filterMap fun (m : Nat) => xs[((((xs.size : Nat) : Int) - 1) + (m : Int) * (-1)).toNat]?) = [xs[xs.size - (n + 1)]] := by
        have e0 : xs[((((xs.size : Nat) : Int) - 1) + (n : Int) * (-1)).toNat]? = some xs[xs.size - (n + 1)] := by rw [e1, Array.getElem?_eq_getElem lt]
        rw [List.filterMap_cons, e0]
        rfl
      rw [e2]
      have e3 : xs.toList.drop (xs.size - (n + 1)) = xs[xs.size - (n + 1)] :: xs.toList.drop (xs.size - n) := by
        rw [List.drop_eq_getElem_cons (by simpa using lt)]
        congr 1
        congr 1
        omega
      rw [e3, List.reverse_cons]
  have := key xs.size (Nat.le_refl _)
  rw [this, Nat.sub_self, List.drop_zero]
section
variable {prog : Program} {w : World} {A : Around} {E : Value → Shared → Prop} {s : Shared}
theorem sliceApplied_rev {sl : Addr} {vl vu vs : Value} {n : Nat} {Q : Int × Int × Nat → Shared → Prop} (hs : s.heap.IsSliceOf sl vl vu vs) (pl : IsPart vl none) (pu : IsPart vu none) (ps : IsPart vs (some (-1)))
    (h : Q ((n : Int) - 1, -1, n) s) : wpAny (model prog w) A (Builtin.Slice.sliceApplied (.ref sl) (pure (n : Int))) Q E s := by
  obtain ⟨os, hos, hcs, hds⟩ := id hs
  unfold Builtin.Slice.sliceApplied Builtin.Slice.sliceFields
  refine wpAny_bind (wpAny_bind (wpAny_field hos hds (x := vl) rfl (wpAny_bind (wpAny_field hos hds (x := vu) rfl (wpAny_bind (wpAny_field hos hds (x := vs) rfl (wpAny_pure ?_)))))))
  refine wpAny_bind (HT.slicePart_ ps ?_)
  show wpAny _ _ (if ((-1 : Int) == 0) = true then _ else _) _ _ s
  rw [if_neg (by decide)]
  refine wpAny_bind (HT.slicePart_ pl (wpAny_bind (HT.slicePart_ pu (wpAny_bind (wpAny_pure ?_)))))
  show wpAny _ _ (match Builtin.Slice.sliceAdjust none none (-1) (n : Int) with | (lo, hi) => pure (lo, (-1 : Int), Builtin.Slice.slicePlaces lo hi (-1))) _ _ s
  rw [adjust_rev n]
  show wpAny _ _ (pure ((n : Int) - 1, (-1 : Int), Builtin.Slice.slicePlaces ((n : Int) - 1) (-1) (-1))) _ _ s
  rw [places_rev]
  exact wpAny_pure h
theorem getItem_tuple_rev {t sl : Addr} {items : Array Value} {vl vu vs : Value} {Q : Value → Shared → Prop} (ht : IsTup s.heap t items) (hs : s.heap.IsSliceOf sl vl vu vs) (pl : IsPart vl none) (pu : IsPart vu none) (ps : IsPart vs (some (-1)))
    (h : Q (.ref s.heap.objs.size) { s with heap := s.heap.push { cls := .type "tuple", data := .seq items.toList.reverse.toArray } }) (hsz : items.size ≤ sizeLine) : wpAny (model prog w) A (getItem (.ref t) (.ref sl)) Q E s := by
  have htake : sizeOk (.seq items.toList.reverse.toArray) := by
    show items.toList.reverse.toArray.size ≤ sizeLine
    rw [List.size_toArray, List.length_reverse, Array.length_toList]
    exact hsz
  obtain ⟨os, hos, hcs, hds⟩ := id hs
  have hTs : s.TypeIs (.ref sl) "slice" := ⟨os, hos, hcs⟩
  unfold getItem
  try with_reducible refine wpAny_holding ?_
  first | refine wpAny_bind (wpAny_pure ?_) | skip
  refine wpAny_bind (wpAny_sequenceKey ht.typeIs (by decide) ?_)
  refine wpAny_bind (wpAny_callSpecial?_slot (name := Str.ofString "__getitem__") ht.typeIs PyProof.Rows.slot_tuple_getitem
    (wpAny_call_entry PyProof.Rows.slot_tuple_getitem ht.typeIs PyProof.Rows.entry_tuple_getitem ?_ (PyProof.Rows.args_tuple_getitem _ _)))
  show wpAny _ _ (Builtin.Tuple.tupleItemsOf (.ref t) >>= _) _ _ s
  refine wpAny_bind (PyProof.Rows.tupleItemsOf_ ht ?_)
  refine wpAny_bind (wpAny_typeOf hTs ?_)
  rw [if_pos (by decide)]
  refine wpAny_bind (sliceApplied_rev hs pl pu ps ?_)
  have hno : ¬ ((((items.size : Int) - 1) == 0 && (-1 : Int) == 1 && items.size == items.size) = true) := by
    rw [show ((-1 : Int) == 1) = false from rfl, Bool.and_false, Bool.false_and]
    exact Bool.false_ne_true
  show wpAny _ _ (if (((items.size : Int) - 1) == 0 && (-1 : Int) == 1 && items.size == items.size) = true then _ else _) _ _ s
  rw [if_neg hno, pick_rev]
  first
    | exact wpAny_bind (m := Builtin.Tuple.tupleExact _) (wpAny_newObj_type (wpAny_pure ⟨_, rfl, wpAny_pure h⟩) htake)
    | exact wpAny_bind (m := Builtin.Tuple.tupleExact _) (wpAny_newObj_type (wpAny_bind (wpAny_pure (wpAny_pure ⟨_, rfl, wpAny_pure h⟩))) htake)
    | exact wpAny_bind (wpAny_bind (m := Builtin.Tuple.tupleExact _) (wpAny_newObj_type (wpAny_pure (wpAny_pure ⟨_, rfl, wpAny_pure h⟩)) htake))
    | exact wpAny_bind (wpAny_bind (m := Builtin.Tuple.tupleExact _) (wpAny_newObj_type (wpAny_pure ⟨_, rfl, wpAny_pure h⟩) htake))
end
def tRevT (K : Kf) (te : TE) : TE := fun σ H Q => te σ H fun x H1 => ∃ a xs, x = .ref a ∧ SqT K H1 a xs ∧ ∀ p, H1 p = none → Q (.ref p) (upd H1 p (.tup xs.reverse))
theorem pe_revT {X : Cx} {e : Expr} {te : TE} {k : Nat} {p1 p2 p3 pos : Pos} (he : PE X e te) : PE X (.Subscript e (.Slice none none (some (.UnaryOp .USub (.Constant (.int 1) k p1) p2)) p3) pos) (tRevT X.K te) := by
  refine ⟨fun pins s σ H Q I h => ?_⟩
  refine Subscript_ (thn (he.run pins s σ H _ I h) fun v s1 ⟨x, H1, I1, r1, q1⟩ => ?_)
  obtain ⟨a, xs, ex, hx, q⟩ := q1
  subst ex
  cases r1
  have hst : PO X (some (.UnaryOp .USub (.Constant (.int 1) k p1) p2)) (tPart (tUn (rU fun i => .int (-i)) (tC (.int 1)))) := po_some (pe_un un_neg pe_int)
  refine wpAny_Slice (thn (po_none.run pins s1 σ H1 (fun o H2 => o = none ∧ H2 = H1) I1 ⟨rfl, rfl⟩) fun vl s2 ⟨l, H2, I2, pl, el, e2⟩ => ?_)
  subst el e2
  refine thn (po_none.run pins s2 σ H2 (fun o H3 => o = none ∧ H3 = H2) I2 ⟨rfl, rfl⟩) fun vu s3 ⟨u, H3, I3, pu, eu, e3⟩ => ?_
  subst eu e3
  refine thn (hst.run pins s3 σ H3 (fun o H4 => o = some (-1) ∧ H4 = H3) I3 ⟨1, rfl, -1, rfl, rfl, rfl⟩) fun vs s4 ⟨o, H4, I4, ps, eo, e4⟩ => ?_
  subst eo e4
  have I5 : Inv X pins σ H4 { s4 with heap := s4.heap.push { cls := .type "slice", data := .fields #[vl, vu, vs] } } := I4.kept (t' := s4.toks) fun b ob q => Heap.get?_push_of_some _ q
  obtain ⟨its, r, ht, hz⟩ := I5.tuple hx
  have hlen := r.length
  show wpAny (model X.prog X.w) X.A (subscriptTail e (.Slice none none (some (.UnaryOp .USub (.Constant (.int 1) k p1) p2)) p3) (.ref a) (.ref s4.heap.objs.size)) (EP X pins σ Q) X.xe { s4 with heap := s4.heap.push { cls := .type "slice", data := .fields #[vl, vu, vs] } }
  refine tail_any (ops := [.ref a, .ref s4.heap.objs.size]) ht.typeIs (PyProof.Rows.slot_tuple_getitem.lookup) ?_ (by with_unfolding_all rfl)
  refine getItem_tuple_rev ht (Heap.IsSliceOf.new _ vl vu vs) pl pu ps ?_ (by rw [List.size_toArray]; omega)
  refine ⟨.ref _, _, I5.laid (t' := s4.toks) (o := .tup xs.reverse) (fun b ob q => Heap.get?_push_of_some _ q) (Nat.le_refl _) ?_, rfl, q _ (I5.hok.fresh (Nat.le_refl _))⟩
  exact ⟨by rw [List.length_reverse]; exact hz, _, r.reverse, IsTup.new _ _⟩
theorem RVs.rev {K : Kf} {S : Hp} : ∀ {ds : List Dt} {xs : List V}, RVs K S ds xs → RVs K S ds.reverse xs.reverse
  | [], xs, h => by cases h; rfl
  | d :: ds, xs, h => by
    obtain ⟨y, ys, rfl, h1, h2⟩ := h
    rw [List.reverse_cons, List.reverse_cons]
    exact (RVs.rev h2).app ⟨y, [], rfl, h1, rfl⟩
def revT : Dt → Option Dt
  | .tuple ds => some (.tuple ds.reverse)
  | _ => none
def revL : Dt → Option Dt
  | .list ds => some (.list ds.reverse)
  | _ => none
section
variable {X : Cx} {Tb : Tbs} {C : Cn} {E : XK} {G : List SM} {fa : Fl} {a : Expr} {ma : En → R Dt} {pos : Pos}
theorem vq_revT {k : Nat} {p1 p2 p3 : Pos} (ha : VQ X Tb C E G fa ma a) : VQ X Tb C E G (Fl.on fa.t? .z) (q1 revT ma) (.Subscript a (.Slice none none (some (.UnaryOp .USub (.Constant (.int 1) k p1) p2)) p3) pos) :=
  PE.weak (pe_revT ha) fun σ H Q fit hq => by
    obtain ⟨Z, en, w, hm⟩ := hq
    refine ⟨Z, en, w, ?_⟩
    unfold q1 at hm
    revert hm
    cases ma en with
    | exc x => exact fun hm => hm
    | bad => exact fun hm => hm
    | ok d =>
      dsimp only [R.bind]
      cases d with
      | tuple ds =>
        intro hm v H1 x1 t1 o1
        obtain ⟨p, xs, rfl, h1, h2⟩ := o1.sel
        refine ⟨p, xs, rfl, SqT.sb (Sel.sub _ _ _ _) h1, fun l nl => ?_⟩
        have o2 := out_tup (Sel.sub fa.t? Z H H1) nl (RVs.rev h2)
        exact hm _ _ (x1.trans (Ex.of_same (same_upd nl))) (t1.ext (same_upd nl)) (o2.comp x1 (Ex.of_same (same_upd nl)))
      | list _ => exact fun hm => hm.elim
      | none => exact fun hm => hm.elim
      | bool _ => exact fun hm => hm.elim
      | int _ => exact fun hm => hm.elim
      | str _ => exact fun hm => hm.elim
      | dict _ => exact fun hm => hm.elim
theorem vq_revL {k : Nat} {p1 p2 p3 : Pos} (ha : VQ X Tb C E G fa ma a) : VQ X Tb C E G (Fl.on fa.t? .own) (q1 revL ma) (.Subscript a (.Slice none none (some (.UnaryOp .USub (.Constant (.int 1) k p1) p2)) p3) pos) :=
  PE.weak (pe_revL ha) fun σ H Q fit hq => by
    obtain ⟨Z, en, w, hm⟩ := hq
    refine ⟨Z, en, w, ?_⟩
    unfold q1 at hm
    revert hm
    cases ma en with
    | exc x => exact fun hm => hm
    | bad => exact fun hm => hm
    | ok d =>
      dsimp only [R.bind]
      cases d with
      | list ds =>
        intro hm v H1 x1 t1 o1
        obtain ⟨p, xs, rfl, h1, h2⟩ := o1.sel
        refine ⟨p, xs, rfl, .inl (.inl (Sel.sub _ _ _ _ _ _ h1 rfl)), fun l nl => ?_⟩
        have o2 := out_lst (Sel.sub fa.t? Z H H1) nl (RVs.rev h2)
        exact hm _ _ (x1.trans (Ex.of_same (same_upd nl))) (t1.ext (same_upd nl)) (o2.comp x1 (Ex.of_same (same_upd nl)))
      | tuple _ => exact fun hm => hm.elim
      | none => exact fun hm => hm.elim
      | bool _ => exact fun hm => hm.elim
      | int _ => exact fun hm => hm.elim
      | str _ => exact fun hm => hm.elim
      | dict _ => exact fun hm => hm.elim
theorem ni_enum {p tpos : Pos} {elts : List Expr} {kk n : Nat} {e : Expr} {ml : En → R (List Dt)} (hm : X.mg "enumerate" = none) (ha : VAn X Tb C E G false n ml [e]) (hg : L2.Gl X "enumerate" := by rfl)
    (hs : starEach [e] X.env = [(false, eval e X.env)] := by rfl) : VI X Tb C E G (iOf enumO ml) (.Tuple elts kk tpos) (.Call (.Name "enumerate" p) [e] [] pos) := vi_enum hg hm ha.va hs
end
end VL
namespace VL
open PySem PySem.Spec PyProof.Rows L2
/-! ### {k: v for ..}, keys ints and texts -/
def keyOf : Dt → Option Key
  | .int i => some (.inl i)
  | .str x => some (.inr x)
  | _ => none
theorem key_rv {K : Kf} {S : Hp} {d : Dt} {q : Key} {y : V} (h : keyOf d = some q) (r : RV K S d y) : y = kV q := by
  unfold keyOf at h
  split at h
  · cases h; cases r; rfl
  · cases h; cases r; rfl
  · cases h
def isK (q : Key) : Dt → Bool
  | .int i => decide (Sum.inl i = q)
  | .str x => decide (Sum.inr x = q)
  | _ => false
theorem isK_key (q r : Key) : isK q (keyD r) = decide (r = q) := by
  cases r <;> rfl
def putD (kvs : List (Dt × Dt)) (q : Key) (v : Dt) : List (Dt × Dt) :=
  if (kvs.any fun kv => isK q kv.1) = true then kvs.map (fun kv => if isK q kv.1 = true then (kv.1, v) else kv) else kvs ++ [(keyD q, v)]
theorem putD_len (kvs : List (Dt × Dt)) (q : Key) (v : Dt) : (putD kvs q v).length ≤ kvs.length + 1 := by
  unfold putD
  split
  · rw [List.length_map]; omega
  · rw [List.length_append]; exact Nat.le_refl _
theorem RKs.any {K : Kf} {S : Hp} (q : Key) : ∀ {kvs : List (Dt × Dt)} {ks : List (Key × V)}, RKs K S kvs ks → (kvs.any fun kv => isK q kv.1) = ks.any fun kv => decide (kv.1 = q)
  | [], ks, h => by cases h; rfl
  | (k, d) :: r, ks, h => by
    obtain ⟨q2, y, s, rfl, rfl, _, h4⟩ := h
    rw [List.any_cons, List.any_cons, RKs.any q h4, isK_key]
theorem RKs.mapK {K : Kf} {S : Hp} (q : Key) {v : Dt} {y : V} (hv : RV K S v y) : ∀ {kvs : List (Dt × Dt)} {ks : List (Key × V)}, RKs K S kvs ks → RKs K S (kvs.map fun kv => if isK q kv.1 = true then (kv.1, v) else kv) (ks.map fun kv => if kv.1 = q then (kv.1, y) else kv)
  | [], ks, h => by cases h; rfl
  | (k, d) :: r, ks, h => by
    obtain ⟨q2, z, s, rfl, rfl, h3, h4⟩ := h
    rw [List.map_cons, List.map_cons]
    by_cases hq : q2 = q
    · have e1 : isK q (keyD q2) = true := by rw [isK_key, decide_eq_true hq]
      rw [if_pos e1, if_pos hq]
      exact ⟨q2, y, _, rfl, rfl, hv, RKs.mapK q hv h4⟩
    · have e1 : ¬ isK q (keyD q2) = true := by rw [isK_key, decide_eq_false hq]; decide
      rw [if_neg e1, if_neg hq]
      exact ⟨q2, z, _, rfl, rfl, h3, RKs.mapK q hv h4⟩
theorem RKs.snoc {K : Kf} {S : Hp} (q : Key) {v : Dt} {y : V} (hv : RV K S v y) : ∀ {kvs : List (Dt × Dt)} {ks : List (Key × V)}, RKs K S kvs ks → RKs K S (kvs ++ [(keyD q, v)]) (ks ++ [(q, y)])
  | [], ks, h => by cases h; exact ⟨q, y, [], rfl, rfl, hv, rfl⟩
  | (k, d) :: r, ks, h => by
    obtain ⟨q2, z, s, rfl, rfl, h3, h4⟩ := h
    exact ⟨q2, z, _, rfl, rfl, h3, RKs.snoc q hv h4⟩
theorem RKs.put {K : Kf} {S : Hp} {q : Key} {v : Dt} {y : V} {kvs : List (Dt × Dt)} {ks : List (Key × V)} (h : RKs K S kvs ks) (hv : RV K S v y) : RKs K S (putD kvs q v) (putK ks q y) := by
  unfold putD putK
  rw [h.any q]
  split
  · exact h.mapK q hv
  · exact h.snoc q hv
def putAll : List (Dt × Dt) → List Dt → Option (List (Dt × Dt))
  | acc, [] => some acc
  | acc, .tuple [k, v] :: r => (keyOf k).bind fun q => putAll (putD acc q v) r
  | _, _ => none
def Dt2 (a b : Dt) : Dt := .tuple [a, b]
def kvM (mk mv : En → R Dt) : En → R Dt := fun e => (mk e).bind fun k => (mv e).bind fun v => .ok (Dt2 k v)
def qDC (mi : En → R (List Dt)) (vs : List Nat) (st : Dt → En → Option En) (mt : En → R Bool) (mk mv : En → R Dt) : En → R Dt := fun e => (mi e).bind fun ds => (fmR (lcItem st mt (kvM mk mv) (wipeE e vs)) ds).bind fun ps => (R.ofO (putAll [] ps)).bind fun kvs => .ok (.dict kvs)
theorem put_one {kvs xs : List (Dt × Dt)} {a b : Dt} {r : R (List Dt)} (h : r.bind (fun ys => R.ofO (putAll kvs (Dt2 a b :: ys))) = .ok xs) : ∃ q, keyOf a = some q ∧ r.bind (fun ys => R.ofO (putAll (putD kvs q b) ys)) = .ok xs := by
  cases r with
  | exc x => cases h
  | bad => cases h
  | ok ys =>
    have h : R.ofO ((keyOf a).bind fun q => putAll (putD kvs q b) ys) = .ok xs := h
    cases hk : keyOf a with
    | none => rw [hk] at h; cases h
    | some q =>
      rw [hk] at h
      exact ⟨q, rfl, h⟩
theorem fm_consD {f : Dt → R (Option Dt)} {d : Dt} {ds : List Dt} {outs xs : List (Dt × Dt)} (h : (fmR f (d :: ds)).bind (fun ys => R.ofO (putAll outs ys)) = .ok xs) :
    (f d = .ok none ∧ (fmR f ds).bind (fun ys => R.ofO (putAll outs ys)) = .ok xs) ∨ ∃ y, f d = .ok (some y) ∧ (fmR f ds).bind (fun ys => R.ofO (putAll outs (y :: ys))) = .ok xs := by
  unfold fmR at h
  cases hf : f d with
  | exc x => rw [hf] at h; cases h
  | bad => rw [hf] at h; cases h
  | ok o =>
    rw [hf] at h
    cases o with
    | none => exact .inl ⟨rfl, h⟩
    | some y =>
      refine .inr ⟨y, rfl, ?_⟩
      revert h
      dsimp only
      cases fmR f ds with
      | exc x => exact fun h => by cases h
      | bad => exact fun h => by cases h
      | ok ys => exact fun h => h
section
variable {K : Kf} {Tb : Tbs} {C : Cn} {E : XK} {G Gb : List SM}
theorem tabs_updK {H : Hp} {D : Addr} {kvs kvs' : List (Key × V)} (t : LamX.Tabs Tb H) (h : H D = some (.dK kvs)) : LamX.Tabs Tb (upd H D (.dK kvs')) := fun p hp => by
  obtain ⟨ps, h1, h2, h3⟩ := t p hp
  have ne : p.1 ≠ D := fun z => by rw [z, h] at h1; cases h1
  refine ⟨ps, by rw [upd_ne ne]; exact h1, h2, fun pos cv hc => ?_⟩
  obtain ⟨c, e, hcv⟩ := h3 pos cv hc
  refine ⟨c, e, ?_⟩
  have ne2 : c ≠ D := fun z => by rw [z, h] at hcv; cases hcv
  rw [upd_ne ne2]
  exact hcv
theorem dc_w {fe : Fl} {mk mv : En → R Dt} {vs sl : List Nat} {mi : En → R (List Dt)} {st : Dt → En → Option En} {mt : En → R Bool} {σ : L2.St} {H : Hp} {Q : VK} (hfe : fe.t? = false) (hv : ∀ i ∈ vs, i < G.length) (hsl : ∀ i ∈ sl, i ∈ vs)
    (hq : tQ K Tb C E G .own (qDC mi vs st mt mk mv) σ H Q) : tDc (tI K Tb C E G mi) (tG K Tb C (wipeG G vs) Gb sl st) (tB K Tb C E00 Gb mt) (tQ K Tb C E00 Gb .z mk) (tQ K Tb C E00 Gb fe mv) vs σ H Q := by
  obtain ⟨Z, en, w, hm⟩ := hq
  refine ⟨Z, en, w, ?_⟩
  unfold qDC at hm
  revert hm
  cases mi en with
  | exc x => exact fun hm => hm
  | bad => exact fun hm => hm
  | ok ds =>
    dsimp only [R.bind]
    cases hf : fmR (lcItem st mt (kvM mk mv) (wipeE en vs)) ds with
    | exc x =>
      exfalso
      revert hf
      have : ∀ (f : Dt → R (Option Dt)) (l : List Dt), fmR f l ≠ .exc x := fun f l => by
        induction l with
        | nil => intro h; cases h
        | cons d l ih =>
          intro h
          unfold fmR at h
          split at h
          · revert h
            cases hh : fmR f l with
            | exc y => exact fun h => by cases h; exact ih hh
            | bad => exact fun h => by cases h
            | ok y => exact fun h => by cases h
          · exact ih h
          · cases h
      exact this _ _
    | bad => exact fun hm => hm.elim
    | ok ps =>
     dsimp only [R.bind]
     cases hpa : putAll [] ps with
     | none => exact fun hm => hm.elim
     | some xs =>
      intro hm J H1 x1 t1 iok D nD
      have hD0 : H D = none := x1.none nD
      have sD : ∀ u, (nw Z H H1) D ≠ some u := fun u z => by
        rw [(nw_of z).1] at nD
        cases nD
      refine ⟨fun i k H' => k = ds.length - i ∧ i ≤ ds.length ∧ Ex H1 H' ∧ LamX.Tabs Tb H' ∧ ∃ acc outs, H' D = some (.dK acc) ∧ RKs K (rm (nw Z H H') D) outs acc ∧ outs.length ≤ i ∧ (fmR (lcItem st mt (kvM mk mv) (wipeE en vs)) (ds.drop i)).bind (fun ys => R.ofO (putAll outs ys)) = .ok xs, ?_, ?_⟩
      · have sm : Same H1 (upd H1 D (.dK [])) := fun b z e => by rw [upd_ne (ne_of_none e nD)]; exact e
        refine ⟨ds.length, rfl, Nat.zero_le _, Ex.of_same sm, t1.ext sm, [], [], upd_same, rfl, Nat.le_refl _, ?_⟩
        rw [List.drop_zero, hf]
        show R.ofO (putAll [] ps) = _
        rw [hpa]
        rfl
      · rintro i k H2 ⟨rfl, hi2, x2, t2, acc, outs, hacc, hrv, hlen, hrest⟩
        have S2 : Sb (nw Z H H1) H2 := (nw_sub _ _ _).trans x2.ke
        by_cases hlt : i < ds.length
        · right
          obtain ⟨hgo, hy⟩ := iok.go i H2 S2 hlt
          rw [List.drop_eq_getElem_cons hlt] at hrest
          refine ⟨hgo, fun H' => i + 1 ≤ ds.length ∧ Ex H1 H' ∧ LamX.Tabs Tb H' ∧ ∃ acc outs, H' D = some (.dK acc) ∧ RKs K (rm (nw Z H H') D) outs acc ∧ outs.length ≤ i + 1 ∧ (fmR (lcItem st mt (kvM mk mv) (wipeE en vs)) (ds.drop (i + 1))).bind (fun ys => R.ofO (putAll outs ys)) = .ok xs, ?_, ?_⟩
          · rintro H' ⟨h1, h2, h3, h4⟩
            exact ⟨ds.length - (i + 1), by omega, rfl, h1, h2, h3, h4⟩
          · intro x H3 hyld
            obtain ⟨sm, d, hd2, rv⟩ := hy x H3 hyld
            rw [List.getElem?_eq_getElem hlt] at hd2
            cases hd2
            have x3 := Ex.of_same sm
            have t3 := t2.ext sm
            have hacc3 : H3 D = some (.dK acc) := sm _ _ hacc
            have xH3 : Ex H H3 := (x1.trans x2).trans x3
            have w3 := (w.extO xH3 t3 hD0).wipe vs hv
            have z3 : Sb (nw (nw Z H H1) H2 H3) (rm (nw Z H H3) D) := fun b o e1 e2 => by
              obtain ⟨f1, f2, f3⟩ := nw_of e1
              have hb : b ≠ D := fun z => by
                subst z
                rw [hacc3] at f1
                cases f1
                rcases f3 with ⟨xs, z⟩ | ⟨u, z, _⟩ | z
                · cases z
                · exact sD _ z
                · rw [hacc] at z; cases z
              rw [rm_ne hb]
              rcases f3 with z | ⟨u, z, zn⟩ | z
              · exact nw_mk f1 f2 (.inl z)
              · obtain ⟨g1, g2, g3⟩ := nw_of z
                have : u = o := by
                  have q := (x2.trans x3).ke b u g1 g2
                  rw [f1] at q
                  exact (Option.some.inj q).symm
                subst this
                exact nw_mk f1 f2 g3
              · exact nw_mk f1 f2 (.inr (.inr ((x1.trans x2).none z)))
            rcases fm_consD hrest with ⟨hit, hr2⟩ | ⟨yd, hit, hr2⟩
            · unfold lcItem at hit
              cases hst : st ds[i] (wipeE en vs) with
              | none => rw [hst] at hit; cases hit
              | some e1 =>
                rw [hst] at hit
                refine ⟨_, _, _, e1, w3, RV.sb z3 _ _ rv, hst, fun σ' hO w4 => ⟨wipe_same hO hsl, _, e1, w4, ?_⟩⟩
                revert hit
                dsimp only
                cases mt e1 with
                | exc x => exact fun h => by cases h
                | bad => exact fun h => by cases h
                | ok b =>
                  cases b with
                  | true =>
                    intro h
                    exfalso
                    revert h
                    dsimp only
                    cases kvM mk mv e1 <;> exact fun h => by cases h
                  | false =>
                    intro _ H4 x4 t4
                    have hacc4 := x4.ke _ _ hacc3 rfl
                    refine ⟨hlt, (x2.trans x3).trans x4, t4, acc, outs, hacc4, RKs.sb (rm_mono (nw_ext (x3.trans x4))) _ _ hrv, by omega, hr2⟩
            · unfold lcItem at hit
              cases hst : st ds[i] (wipeE en vs) with
              | none => rw [hst] at hit; cases hit
              | some e1 =>
                rw [hst] at hit
                refine ⟨_, _, _, e1, w3, RV.sb z3 _ _ rv, hst, fun σ' hO w4 => ⟨wipe_same hO hsl, _, e1, w4, ?_⟩⟩
                revert hit
                dsimp only
                cases mt e1 with
                | exc x => exact fun h => by cases h
                | bad => exact fun h => by cases h
                | ok b =>
                  cases b with
                  | false => exact fun h => by cases h
                  | true =>
                    intro hit H4 x4 t4
                    refine ⟨_, e1, w4.ext x4 t4, ?_⟩
                    revert hit
                    dsimp only
                    unfold kvM
                    cases hmk : mk e1 with
                    | exc x => exact fun h => by cases h
                    | bad => exact fun h => by cases h
                    | ok dk =>
                      intro hit y H5 x5 t5 o5
                      have w5 := (w4.ext x4 t4).ext x5 t5
                      refine ⟨_, e1, w5, ?_⟩
                      revert hit
                      dsimp only [R.bind]
                      cases mv e1 with
                      | exc x => exact fun h => by cases h
                      | bad => exact fun h => by cases h
                      | ok d' =>
                        intro hit y2 H6 x6v t6 o6v
                        have hyd : Dt2 dk d' = yd := by
                          have h3 : (R.ok (some (Dt2 dk d')) : R (Option Dt)) = .ok (some yd) := hit
                          exact Option.some.inj (R.ok.inj h3)
                        subst hyd
                        obtain ⟨q, hq1, hr3⟩ := put_one hr2
                        have hyk : y = kV q := key_rv hq1 (show RV K _ dk y from o5)
                        have hacc5 := ((x4.trans x5).trans x6v).ke _ _ hacc3 rfl
                        have x25 := (((x2.trans x3).trans x4).trans x5).trans x6v
                        have hal : acc.length < sizeLine := by
                          rw [hrv.lenK]
                          have := iok.len
                          omega
                        have x6 : Ex H1 (upd H6 D (.dK (putK acc q y2))) := by
                          have sd : ∀ b, H1 b ≠ none → b ≠ D := fun b hb z => hb (z ▸ nD)
                          refine ⟨fun b o e1 e2 => ?_, fun b ps e1 => ?_⟩
                          · rw [upd_ne (sd b (by rw [e1]; simp))]
                            exact x25.ke b o e1 e2
                          · rw [upd_ne (sd b (by rw [e1]; simp))]
                            exact x25.tb b ps e1
                        have same6 : ∀ b, b ≠ D → (upd H6 D (.dK (putK acc q y2))) b = H6 b := fun b hb => upd_ne hb
                        have z6 : Sb (rm (nw Z H H6) D) (rm (nw Z H (upd H6 D (.dK (putK acc q y2)))) D) := fun b o e1 e2 => by
                          have hb : b ≠ D := fun z => by subst z; rw [rm_same] at e1; cases e1
                          rw [rm_ne hb] at e1 ⊢
                          obtain ⟨f1, f2, f3⟩ := nw_of e1
                          exact nw_mk (by rw [same6 b hb]; exact f1) f2 f3
                        refine ⟨acc, q, hyk, hacc5, hal, hlt, x6, tabs_updK t6 hacc5, putK acc q y2, putD outs q d', upd_same, ?_, Nat.le_trans (putD_len outs q d') (by omega), hr3⟩
                        refine RKs.put (RKs.sb ((rm_mono (nw_ext (((x3.trans x4).trans x5).trans x6v))).trans z6) _ _ hrv) ?_
                        have o6 : RV K (nw (nw (nw (rm (nw Z H H3) D) H3 H4) H4 H5) H5 H6) d' y2 := by
                          cases fe with
                          | z => exact o6v
                          | t => cases hfe
                          | own => exact Out.z o6v
                        refine RV.sb (((nw_mono (nw_nw x4 x5)).trans (nw_nw (x4.trans x5) x6v)).trans (Sb.trans (fun b o e1 e2 => ?_) z6)) _ _ o6
                        obtain ⟨f1, f2, f3⟩ := nw_of e1
                        have hb : b ≠ D := fun z => by
                          subst z
                          rw [hacc5] at f1
                          cases f1
                          rcases f3 with ⟨xs, z⟩ | ⟨u, z, _⟩ | z
                          · cases z
                          · rw [rm_same] at z; cases z
                          · rw [hacc3] at z; cases z
                        rw [rm_ne hb]
                        rcases f3 with z | ⟨u, z, zn⟩ | z
                        · exact nw_mk f1 f2 (.inl z)
                        · rw [rm_ne hb] at z
                          obtain ⟨g1, g2, g3⟩ := nw_of z
                          have : u = o := by
                            have q := ((x4.trans x5).trans x6v).ke b u g1 g2
                            rw [f1] at q
                            exact (Option.some.inj q).symm
                          subst this
                          exact nw_mk f1 f2 g3
                        · exact nw_mk f1 f2 (.inr (.inr (xH3.none z)))
        · left
          have hn : i = ds.length := by omega
          refine ⟨iok.stop i H2 S2 hn, ?_⟩
          rw [List.drop_of_length_le (Nat.le_of_eq hn.symm)] at hrest
          have hx : outs = xs := by
            have h3 : (R.ok outs : R (List (Dt × Dt))) = .ok xs := hrest
            exact R.ok.inj h3
          subst hx
          exact hm _ H2 (x1.trans x2) t2 ⟨D, rfl, hD0, .inl ⟨acc, hacc, hrv⟩⟩
end
section
variable {X : Cx} {Tb : Tbs} {C : Cn} {E : XK} {G Gb : List SM} {tg iter kx vx : Expr} {pos : Pos}
theorem vq_dc {fe : Fl} {ifs : List Expr} {scope : Scope} {own : List (Str × Nat)} {sl : List Nat} {mi : En → R (List Dt)} {st : Dt → En → Option En} {mt : En → R Bool} {mk mv : En → R Dt} (hc : X.calm = true) (hN : X.N.Nodup) (hi : VI X Tb C E G mi tg iter) (ok : BlkOk X.N X.env.scope scope own)
    (hg : ∀ (s : Shared) (H : Hp) (D : Addr) (cl : List (Str × Addr)) (fp : List Addr), VG (X.blk s H scope (compEnvC scope cl D X.env) fp) Tb C (wipeG G (own.map (·.2))) Gb sl st tg)
    (ht : ∀ (s : Shared) (H : Hp) (D : Addr) (cl : List (Str × Addr)) (fp : List Addr), VTs (X.blk s H scope (compEnvC scope cl D X.env) fp) Tb C E00 Gb mt ifs)
    (hk : ∀ (s : Shared) (H : Hp) (D : Addr) (cl : List (Str × Addr)) (fp : List Addr), VQ (X.blk s H scope (compEnvC scope cl D X.env) fp) Tb C E00 Gb .z mk kx)
    (he : ∀ (s : Shared) (H : Hp) (D : Addr) (cl : List (Str × Addr)) (fp : List Addr), VQ (X.blk s H scope (compEnvC scope cl D X.env) fp) Tb C E00 Gb fe mv vx) (hfe : fe.t? = false)
    (hv : ∀ i ∈ own.map (·.2), i < G.length) (hsl : ∀ i ∈ sl, i ∈ own.map (·.2)) (hs : ∀ x, foldedSetIterable iter X.env x = pure x := by intro _; rfl) :
    VQ X Tb C E G .own (qDC mi (own.map (·.2)) st mt mk mv) (.DictComp kx vx [⟨tg, iter, ifs, 0⟩] scope pos) :=
  PE.weak (pe_dc (g := tG X.K Tb C (wipeG G (own.map (·.2))) Gb sl st) (tt := tB X.K Tb C E00 Gb mt) (tk := tQ X.K Tb C E00 Gb .z mk) (tv := tQ X.K Tb C E00 Gb fe mv) hc hN hi ok hg ht hk he hs) fun σ H Q _ hq => dc_w hfe hv hsl hq
end
/-! ### len(set(xs)), xs a list of ints -/
def distI (ns : List Int) : List Int := ns.foldl PyProof.Rows.step_dedup []
theorem distI_eq (ns : List Int) : PyProof.Rows.firstMet (fun i => ns.getD i 0) ns.length = distI ns := by
  unfold PyProof.Rows.firstMet distI
  congr 1
  apply List.ext_getElem
  · simp
  · intro i h1 h2
    simp [h2]
def tLenSetG (K : Kf) (ta : TE) : TE := fun σ H Q => ta σ H fun x H1 => ∃ (l : Addr) (ns : List Int), x = .ref l ∧ SqL K H1 l (ns.map V.int) ∧ ns.length ≤ 4000 ∧ Q (.int ((distI ns).length : Nat)) H1
theorem pe_lenSetG {X : Cx} {a : Expr} {ta : TE} {p p2 q pos : Pos} (hg : Gl X "len") (hm : X.mg "len" = none) (hg2 : Gl X "set") (hm2 : X.mg "set" = none) (ha : PE X a ta) (hc : X.calm = true)
    (na : starEach [a] X.env = (false, eval a X.env) :: starEach [] X.env := by rfl) : PE X (.Call (.Name "len" p) [.Call (.Name "set" p2) [a] [] q] [] pos) (tLenSetG X.K ta) := by
  refine ⟨fun pins s σ H Q I h => ?_⟩
  refine Call_ (ld_blt I hg hm PySem.boot_len ?_)
  refine PyProof.Rows.callWith_builtin1 (PyProof.Rows.args_cons ?_ rfl) rfl rfl
  refine Call_ (ld_blt I hg2 hm2 PyProof.Rows.boot_set ?_)
  refine PyProof.Rows.callWith_type1 (PyProof.Rows.args_cons (thn (ha.run pins s σ H _ I h) fun v s1 ⟨x, H1, I1, r1, q1⟩ => PyProof.Rows.args_nil ?_) na) na rfl
  obtain ⟨l, ns, rfl, hq, hl, q1⟩ := q1
  cases r1
  obtain ⟨its, r, pl, hz⟩ := I1.list hq
  have hlen : its.toArray.size = ns.length := by rw [List.size_toArray, ← r.length, List.length_map]
  refine call_set_list (I1.ok.hd hc) pl.isList (ns := ns) (by simpa using r.ints) (by rw [hlen]; unfold scanBound; omega) fun h' tk hS hk => ?_
  refine PyProof.Rows.args_nil ?_
  have hle := PyProof.Rows.firstMet_length_le (fun i => ns.getD i 0) ns.length
  rw [hlen] at hS
  rw [distI_eq] at hS hle
  obtain ⟨o, es, ep, t, ho, hex, hd, _, _, _, hf, hn⟩ := hS
  have I2 : Inv X pins σ H1 { s1 with heap := h', toks := tk } := I1.kept fun b o e => hk b o (Heap.lt_size e) e
  exact call_len_set ho hex hd hf (by rw [hn] <;> omega) ⟨.int ((distI ns).length : Nat), H1, I2.tok _, ⟨_, by rw [hn]⟩, q1⟩
def setLenD : Dt → Option Dt
  | .list ds => (ints? ds).bind fun ns => if ns.length ≤ 4000 then some (.int ((distI ns).length : Nat)) else none
  | _ => none
section
variable {X : Cx} {Tb : Tbs} {C : Cn} {E : XK} {G : List SM} {fa : Fl} {a : Expr} {ma : En → R Dt} {pos : Pos}
theorem vq_lenSet {p p2 q : Pos} (hg : Gl X "len") (hm : X.mg "len" = none) (hg2 : Gl X "set") (hm2 : X.mg "set" = none) (ha : VQ X Tb C E G fa ma a) (hc : X.calm = true)
    (na : starEach [a] X.env = (false, eval a X.env) :: starEach [] X.env := by rfl) : VQ X Tb C E G .z (q1 setLenD ma) (.Call (.Name "len" p) [.Call (.Name "set" p2) [a] [] q] [] pos) :=
  PE.weak (pe_lenSetG hg hm hg2 hm2 ha hc na) fun σ H Q _ hq => by
    obtain ⟨Z, en, w, hm⟩ := hq
    refine ⟨Z, en, w, ?_⟩
    unfold q1 at hm
    revert hm
    cases ma en with
    | exc x => exact fun hm => hm
    | bad => exact fun hm => hm
    | ok d =>
      dsimp only [R.bind]
      cases d with
      | list ds =>
        unfold setLenD
        dsimp only
        cases hi : ints? ds with
        | none => exact fun hm => hm.elim
        | some ns =>
          dsimp only [Option.bind]
          by_cases hl : ns.length ≤ 4000
          · rw [if_pos hl]
            intro hm v H1 x1 t1 o1
            obtain ⟨l, xs, rfl, h1, h2⟩ := o1.sel
            have e2 := ints?_ok hi h2
            subst e2
            exact ⟨l, ns, rfl, .inl (.inl (Sel.sub _ _ _ _ _ _ h1 rfl)), hl, hm _ H1 x1 t1 rfl⟩
          · rw [if_neg hl]
            exact fun hm => hm.elim
      | tuple _ => exact fun hm => hm.elim
      | none => exact fun hm => hm.elim
      | bool _ => exact fun hm => hm.elim
      | int _ => exact fun hm => hm.elim
      | str _ => exact fun hm => hm.elim
      | dict _ => exact fun hm => hm.elim
end
end VL
namespace VL
open PySem PySem.Spec PyProof.Rows L2
/-! ### lambdas with one default, an int that the body never reads -/
abbrev lamF (dV : Value) (name qual : Str) (params : Arguments) (body : Expr) (scope : Scope) (cl : List (Str × Addr)) (pm cdv ct : Value) : FuncData :=
  { PySem.W.kla_fn name qual params body scope cl pm cdv ct with defaults := dV }
abbrev lamO (dV : Value) (name qual : Str) (params : Arguments) (body : Expr) (scope : Scope) (cl : List (Str × Addr)) (pm cdv ct : Value) : Obj :=
  { cls := .type "function", data := .func (lamF dV name qual params body scope cl pm cdv ct) }
section
variable {M : Model} {A : Around} {E : Value → Shared → Prop} {s : Shared} {env : Env} {c P : Addr} {ps : Array Value} {mg : Str → Option Value} {scope : Scope} {clos : List (Str × Addr)}
/-- the tuple of the cells, or none -/
theorem clos_any {Q : Value → Shared → Prop} {l : List (Str × Addr)} {ts : List Value} {jp : Value → Sem Value} (h : ∀ (ctv : Value) (h1 : Heap), (∀ b o, s.heap.get? b = some o → h1.get? b = some o) → s.heap.objs.size ≤ h1.objs.size → wpAny M A (jp ctv) Q E { s with heap := h1 }) :
    wpAny M A (if l.isEmpty = true then (do let t ← pure .none; jp t) else (do let t ← newTextTuple ts; jp t)) Q E s := by
  cases l with
  | nil => exact wpAny_bind (wpAny_pure (h .none s.heap (fun _ _ e => e) (Nat.le_refl _)))
  | cons q r => exact wpAny_bind (wpAny_newTextTuple (h _ _ (fun _ _ e => Heap.get?_push_of_some _ e) (by rw [Heap.size_push]; omega)))
theorem lam_tail {dV : Value} {name qual : Str} {params : Arguments} {body : Expr} {pos : Pos} {line : Nat} {Q : Value → Shared → Prop} (hcl : closureFor scope env = pure clos) (hge0 : env.globals = mainGlobals) (hg : s.heap.Ns mainGlobals mg) (hcode : env.code = .ref c) (C : PySem.W.CodeHd s.heap c P) (hP : s.heap.get? P = some (PySem.W.tabObj ps))
    (ht : TriplesOk ps.toList) (hnf : codeAmong pos ps.toList = none) (hgP : mainGlobals ≠ P) (hb : s.heap.BuiltinsAt mg P)
    (h : ∀ c' ctv h' tk, Heap.ExtBut P s.heap h' → s.heap.objs.size ≤ c' → c' < h'.objs.size → h'.CodeRec (.ref c') qual → h'.get? P = some (PySem.W.tabObj (ps ++ #[rawInt pos.line, rawInt pos.col, .ref c'])) →
      Q (.ref h'.objs.size) { s with heap := h'.push (lamO dV name qual params body scope clos ((mg "__name__").getD .none) (.ref c') ctv), toks := tk }) :
    wpAny M A (makeTail name qual params (.expr body) scope env dV .none none pos line) Q E s := by
  obtain ⟨bm, ob, q1, q2, _, q3, q4, q5, q6, q7⟩ := hb
  unfold makeTail
  rw [hcl, hge0]
  refine wpAny_bind (wpAny_pure ?_)
  refine clos_any fun ctv h1 hk hz => ?_
  refine wpAny_bind (wpAny_functionCodeX hcode ((C.keeps hk).code (hk _ _ hP) ht) ((C.keeps hk).tab (hk _ _ hP)) hnf fun c' h' tk hx hge hlt _ hrec htb _ => ?_)
  have hx2 : Heap.ExtBut P s.heap h' := fun b o n e => hx b o n (hk _ _ e)
  have hg2 := hg.extBut hx2 hgP
  refine wpAny_bind (wpAny_builtinsFor hg2 q1 q2 (hx2 _ _ q3 q4) q5 q6 q7 (wpAny_bind (wpAny_nsGet hg2 ?_)))
  exact wpAny_bind (wpAny_pure (wpAny_newObj_type (h c' ctv h' tk hx2 (Nat.le_trans hz hge) hlt hrec htb.2) (by size_fits)))
theorem lam_tailHit {dV cv : Value} {name qual : Str} {params : Arguments} {body : Expr} {pos : Pos} {line : Nat} {Q : Value → Shared → Prop} (hcl : closureFor scope env = pure clos) (hge0 : env.globals = mainGlobals) (hg : s.heap.Ns mainGlobals mg) (hcode : env.code = .ref c) (C : PySem.W.CodeHd s.heap c P) (hP : s.heap.get? P = some (PySem.W.tabObj ps))
    (ht : TriplesOk ps.toList) (hf : codeAmong pos ps.toList = some cv) (hb : s.heap.BuiltinsAt mg P)
    (h : ∀ (ctv : Value) (h' : Heap) (tk : Tok), (∀ b o, s.heap.get? b = some o → h'.get? b = some o) → s.heap.objs.size ≤ h'.objs.size →
      Q (.ref h'.objs.size) { s with heap := h'.push (lamO dV name qual params body scope clos ((mg "__name__").getD .none) cv ctv), toks := tk }) :
    wpAny M A (makeTail name qual params (.expr body) scope env dV .none none pos line) Q E s := by
  obtain ⟨bm, ob, q1, q2, _, q3, q4, q5, q6, q7⟩ := hb
  unfold makeTail
  rw [hcl, hge0]
  refine wpAny_bind (wpAny_pure ?_)
  refine clos_any fun ctv h1 hk hz => ?_
  refine wpAny_bind (wpAny_functionCode_hit hcode ((C.keeps hk).code (hk _ _ hP) ht) hf ?_)
  have hg2 := hg.keeps hk
  refine wpAny_bind (wpAny_builtinsFor hg2 q1 q2 (hk _ _ q4) q5 q6 q7 (wpAny_bind (wpAny_nsGet hg2 ?_)))
  exact wpAny_bind (wpAny_pure (wpAny_newObj_type (h ctv h1 s.toks hk hz) (by size_fits)))
end
section
variable {X : Cx} {pins : List (Addr × Obj)} {σ : L2.St} {H HZ : Hp} {s s1 : Shared} {Tb : Tbs}
theorem lam_mkD {c P : Addr} {params : Arguments} {body : Expr} {scope : Scope} {pos cp : Pos} {di : Int} {dj : Nat} {Q : Value → Shared → Prop} (I0 : Inv X pins σ H s) (TB : LamX.TabB X.base X.mg c P) (hcode : X.env.code = .ref c)
    (hm : (P, X.env.qual ++ "<lambda>") ∈ Tb) (hu : ∀ p ∈ Tb, p.1 = P → p.2 = X.env.qual ++ "<lambda>") (hT : LamX.Tabs Tb H) (hdef : defaultsOf params X.env = ([eval (.Constant (.int di) dj cp) X.env], [])) (hfree : ∀ y ∈ scope.names, y.2 = .free → ∃ c, X.env.cells.lookup y.1 = some c)
    (h : ∀ (f c' dt : Addr) (dk : Tok) (pm ctv : Value) (H1 : Hp) (s' : Shared), Inv X pins σ H1 s' → Ex H H1 → LamX.Tabs Tb H1 →
      s'.heap.get? f = some (lamO (.ref dt) "<lambda>" (X.env.qual ++ "<lambda>") params body scope (cloFrom X.env.cells scope.names []) pm (.ref c') ctv) → H1 f = none → f ∉ frs X.stack → H1 c' = some (LamX.CodeO c' (X.env.qual ++ "<lambda>")) →
      s'.heap.get? dt = some { cls := .type "tuple", data := .seq #[.int di dk] } → H1 dt = none → dt ∉ frs X.stack → Q (.ref f) s') :
    wpAny (model X.prog X.w) X.A (eval (.Lambda params body scope pos) X.env) Q X.xe s := by
  obtain ⟨ps, hP, ht, ha⟩ := hT _ hm
  rw [arm_eval_Lambda, hdef]
  show wpAny (model X.prog X.w) X.A (do let dv ← evalAll [eval (.Constant (.int di) dj cp) X.env]; let kdv ← holding dv (evalAllOpt []); makeFunction "<lambda>" (X.env.qual ++ "<lambda>") params (.expr body) scope X.env dv kdv [] pos pos.line) Q X.xe s
  refine wpAny_bind (wpAny_bind (thn ((pe_int (X := X) (i := di) (j := dj) (pos := cp)).run pins s σ H (fun x H1 => x = .int di ∧ H1 = H) I0 ⟨rfl, rfl⟩) fun v s0 ⟨x, H0, I1, r1, q1⟩ => ?_))
  obtain ⟨rfl, rfl⟩ := q1
  obtain ⟨dk, rfl⟩ := r1
  refine wpAny_bind (wpAny_holding (wpAny_pure (wpAny_pure ?_)))
  refine wpAny_bind (wpAny_holding (wpAny_pure ?_))
  rw [makeFunction_eq]
  simp only [List.zip_nil_right, List.filterMap_nil, List.isEmpty_cons, Bool.false_eq_true, if_false, List.isEmpty_nil, if_true, pure_bind]
  refine wpAny_bind (wpAny_newTextTuple ?_)
  have I : Inv X pins σ H0 { s0 with heap := s0.heap.push { cls := .type "tuple", data := .seq #[.int di dk] } } := I1.kept (t' := s0.toks) fun b o e => Heap.get?_push_of_some _ e
  have hdt : (s0.heap.push { cls := .type "tuple", data := .seq #[.int di dk] }).get? s0.heap.objs.size = some { cls := .type "tuple", data := .seq #[.int di dk] } := Heap.get?_push_size _ rfl
  have hdn : H0 s0.heap.objs.size = none := I1.hok.fresh (Nat.le_refl _)
  have nofr0 : ∀ f, s0.heap.objs.size ≤ f → f ∉ frs X.stack := fun f hf z => by
    rcases List.mem_cons.mp (I1.stkSub _ z) with e | e
    · have h1 := I1.lt
      rw [← e] at h1
      exact Nat.lt_irrefl _ (Nat.lt_of_lt_of_le h1 hf)
    · exact I1.nofs hf e
  have hdr := nofr0 s0.heap.objs.size (Nat.le_refl _)
  have hdl : s0.heap.objs.size < (s0.heap.push { cls := .type "tuple", data := .seq #[.int di dk] }).objs.size := Heap.lt_size hdt
  have hPd : P ≠ s0.heap.objs.size := ne_of_none hP hdn
  generalize hsq : ({ s0 with heap := s0.heap.push { cls := .type "tuple", data := .seq #[.int di dk] } } : Shared) = s at I
  have hdt : s.heap.get? s0.heap.objs.size = some { cls := .type "tuple", data := .seq #[.int di dk] } := by rw [← hsq]; exact hdt
  have hdl : s0.heap.objs.size < s.heap.objs.size := by rw [← hsq]; exact hdl
  generalize s0.heap.objs.size = dt at hdt hdn hdr hdl hPd
  have bP : s.heap.BuiltinsAt X.mg P := TB.bm.keeps I.bk
  have hP' : s.heap.get? P = some { cls := .none, data := .fields ps } := I.hok P _ hP
  have nofr : ∀ f, s.heap.objs.size ≤ f → f ∉ frs X.stack := fun f hf z => by
    rcases List.mem_cons.mp (I.stkSub _ z) with e | e
    · have h1 := I.lt
      rw [← e] at h1
      exact Nat.lt_irrefl _ (Nat.lt_of_lt_of_le h1 hf)
    · exact I.nofs hf e
  cases hc : codeAmong pos ps.toList with
  | some cv =>
    obtain ⟨c', e, hco⟩ := ha pos cv hc
    subst e
    refine lam_tailHit (dV := .ref dt) (mg := X.mg) (c := c) (P := P) (ps := ps) (closure_ok hfree) I.ok.glob (I.mod.glob.keeps I.bk) hcode (TB.code.keeps I.bk) hP' ht hc bP fun ctv h' tk hx hsz => ?_
    exact h h'.objs.size c' dt dk ((X.mg "__name__").getD .none) ctv H0 _ (I.kept fun b o e => Heap.get?_push_of_some _ (hx b o e)) (Ex.refl H0) hT (Heap.get?_push_size _ rfl) (I.hok.fresh hsz) (nofr _ hsz) hco (Heap.get?_push_of_some _ (hx _ _ hdt)) hdn hdr
  | none =>
    refine lam_tail (dV := .ref dt) (mg := X.mg) (c := c) (P := P) (ps := ps) (closure_ok hfree) I.ok.glob (I.mod.glob.keeps I.bk) hcode (TB.code.keeps I.bk) hP' ht hc TB.gP bP fun c' ctv h' tk hx hge hlt hrec htb => ?_
    obtain ⟨c2, oc, vs, t, e2, hoc, hd, hv⟩ := hrec
    cases e2
    have hsz : s.heap.objs.size ≤ h'.objs.size := Nat.le_trans hge (Nat.le_of_lt hlt)
    have nC : H0 c' = none := I.hok.fresh hge
    have nPc : P ≠ c' := ne_of_none hP nC
    have I1 := LamX.inv_table (t' := tk) (more := #[rawInt pos.line, rawInt pos.col, .ref c']) (h' := h'.push (lamO (.ref dt) "<lambda>" (X.env.qual ++ "<lambda>") params body scope (cloFrom X.env.cells scope.names []) ((X.mg "__name__").getD .none) (.ref c') ctv)) I hP
      (fun b o hb e => Heap.get?_push_of_some _ (hx b o hb e)) (Heap.get?_push_of_some _ htb) hge ⟨oc, vs, t, Heap.get?_push_of_some _ hoc, hd, hv⟩
    have at1 : upd (upd H0 P (.tbl (ps ++ #[rawInt pos.line, rawInt pos.col, .ref c']))) c' (LamX.CodeO c' (X.env.qual ++ "<lambda>")) P = some (.tbl (ps ++ #[rawInt pos.line, rawInt pos.col, .ref c'])) := by rw [upd_ne nPc, upd_same]
    have oth : ∀ b o, H0 b = some o → b ≠ P → upd (upd H0 P (.tbl (ps ++ #[rawInt pos.line, rawInt pos.col, .ref c']))) c' (LamX.CodeO c' (X.env.qual ++ "<lambda>")) b = some o := fun b o e hb => by
      rw [upd_ne (ne_of_none e nC), upd_ne hb]
      exact e
    have nB : ∀ b o, H0 b = some o → nt o = true → b ≠ P := fun b o e n z => by
      subst z
      have e2 : some o = some (.tbl ps) := e.symm.trans hP
      cases e2
      cases n
    have hE : Ex H0 (upd (upd H0 P (.tbl (ps ++ #[rawInt pos.line, rawInt pos.col, .ref c']))) c' (LamX.CodeO c' (X.env.qual ++ "<lambda>"))) := by
      refine ⟨fun b o e n => oth b o e (nB b o e n), fun b qs e => ?_⟩
      by_cases hb : b = P
      · subst hb
        exact ⟨_, at1⟩
      · exact ⟨qs, oth b _ e hb⟩
    have eL : (ps ++ #[rawInt pos.line, rawInt pos.col, .ref c']).toList = ps.toList ++ [rawInt pos.line, rawInt pos.col, .ref c'] := by simp
    have n1 : h'.objs.size ≠ c' := Nat.ne_of_gt hlt
    have n2 : h'.objs.size ≠ P := Nat.ne_of_gt (Nat.lt_of_lt_of_le (Heap.lt_size hP') hsz)
    refine h h'.objs.size c' dt dk ((X.mg "__name__").getD .none) ctv _ _ I1 hE (fun p hp => ?_) (Heap.get?_push_size _ rfl) (by rw [upd_ne n1, upd_ne n2]; exact I.hok.fresh hsz) (nofr _ hsz) upd_same (Heap.get?_push_of_some _ (hx _ _ (Ne.symm hPd) hdt)) (by rw [upd_ne (Nat.ne_of_lt (Nat.lt_of_lt_of_le hdl hge)), upd_ne (Ne.symm hPd)]; exact hdn) hdr
    by_cases hb : p.1 = P
    · rw [hu p hp hb, hb]
      refine ⟨_, at1, by rw [eL]; exact PySem.TriplesOk_snoc _ _ _ _ ht, fun p' cv hcv => ?_⟩
      rw [eL] at hcv
      rcases LamX.among_app _ ht hcv with z | z
      · obtain ⟨c0, e1, e2⟩ := ha p' cv z
        exact ⟨c0, e1, hE.ke _ _ e2 rfl⟩
      · exact ⟨c', z, upd_same⟩
    · obtain ⟨qs, a1, a2, a3⟩ := hT p hp
      refine ⟨qs, oth _ _ a1 hb, a2, fun p' cv hcv => ?_⟩
      obtain ⟨c0, e1, e2⟩ := a3 p' cv hcv
      exact ⟨c0, e1, hE.ke _ _ e2 rfl⟩
/-! the names: captured ones, globals, one parameter d -/
structure LamD (N : List Str) (d : Str) (sc scope : Scope) : Prop where
  kind : scope.kind = .function
  co : scope.isCoroutine = false
  gen : scope.isGenerator = false
  own : ∀ y ∈ scope.names, (y.2 = .local → y.1 = d) ∧ y.2 ≠ .cell
  free : ∀ y ∈ scope.names, y.2 = .free → sc.names.lookup y.1 = some .cell ∨ sc.names.lookup y.1 = some .free
  dN : d ∉ N
  dl : scope.names.lookup d = some .local
def lamDB (N : List Str) (d : Str) (sc scope : Scope) : Bool :=
  decide (scope.kind = .function) && !scope.isCoroutine && !scope.isGenerator && (scope.names.all fun y => (!decide (y.2 = .local) || decide (y.1 = d)) && !decide (y.2 = .cell) && (!decide (y.2 = .free) || decide (sc.names.lookup y.1 = some .cell) || decide (sc.names.lookup y.1 = some .free))) && (!decide (d ∈ N) && decide (scope.names.lookup d = some .local))
theorem lamD_by {N : List Str} {d : Str} {sc scope : Scope} (h : lamDB N d sc scope = true) : LamD N d sc scope := by
  unfold lamDB at h
  simp only [Bool.and_eq_true, Bool.or_eq_true, Bool.not_eq_true', decide_eq_true_eq, decide_eq_false_iff_not, List.all_eq_true] at h
  obtain ⟨⟨⟨⟨h1, h2⟩, h3⟩, h4⟩, h5, h6⟩ := h
  refine ⟨h1, h2, h3, fun y hy => ⟨fun e => ?_, (h4 y hy).1.2⟩, fun y hy e => ?_, h5, h6⟩
  · rcases (h4 y hy).1.1 with z | z
    · exact absurd e z
    · exact z
  · rcases (h4 y hy).2 with (z | z) | z
    · exact absurd e z
    · exact .inl z
    · exact .inr z
theorem LamD.has {N : List Str} {d : Str} {scope : Scope} (L : LamD N d X.env.scope scope) (ok : X.Ok) : ∀ y ∈ scope.names, y.2 = .free → ∃ c, X.env.cells.lookup y.1 = some c := fun y hy e => by
  rcases L.free y hy e with k | k
  · exact ok.has _ (.inl k)
  · exact ok.has _ (.inr k)
theorem lam_startD {A : Around} {outer : List Env} {E : XK} {scope : Scope} {f c' : Addr} {h₁ : Heap} {tk : Nat} {d : Str} {binds : List (Str × Value)} (I : Inv X pins σ H s) (L : LamD X.N d X.env.scope scope) (e0 : Env0 X.prog X.w X.K X.mg X.base A outer s1 HZ) (hd : A.handled = none)
    (un : Un (frs X.stack) [] H HZ s.heap s1.heap) (hns : h₁.Ns s1.heap.objs.size fun y => binds.reverse.lookup y) (kp : ∀ b o, s1.heap.get? b = some o → h₁.get? b = some o) :
    Inv (LamX.lamCx X A outer s1 HZ E scope f c') [] σ HZ { s1 with heap := h₁, toks := tk } := by
  have hfree := L.has I.ok
  have cm : ∀ {y c}, (cloFrom X.env.cells scope.names []).lookup y = some c → X.env.cells.lookup y = some c := fun {y c} e => by
    rcases cloFrom_mem (PySem.mem_of_lookup e) with hm | ⟨h1, h2⟩
    · cases hm
    · obtain ⟨c1, hc⟩ := hfree _ h1 rfl
      have hc : X.env.cells.lookup y = some c1 := hc
      have e2 : c = c1 := by
        rw [h2, hc] <;> rfl
      rw [e2]
      exact hc
  have look : ∀ {y}, scope.names.lookup y = some .free → ∃ c, (cloFrom X.env.cells scope.names []).lookup y = some c := fun {y} hl => by
    have hy : (y, NameKind.free) ∈ scope.names := PySem.mem_of_lookup hl
    exact mem_lookup (cloFrom_has (cells := X.env.cells) (acc := []) hy)
  have cellK : ∀ {c : Addr} {v : Option Value}, H c = none → s.heap.IsCell c v → h₁.IsCell c v := fun {c v} n ⟨o, ho, hd⟩ => by
    obtain ⟨sl, q⟩ := un.any ho n (by simp)
    exact ⟨_, kp _ _ q, hd⟩
  have noA : ∀ b : Addr, b ∉ (LamX.lamCx X A outer s1 HZ E scope f c').ex := fun b z => absurd (show b ∈ ([] : List Addr) from z) (by simp)
  refine ⟨⟨e0.mod, L.kind, rfl, rfl, Nat.le_refl _, fun y z c e1 e2 => I.ok.inj y z c (cm e1) (cm e2), fun y hy => ?_, fun y c z _ => ?_, fun _ => hd, Around.frames_deeper e0.frames, .inr ⟨rfl, rfl⟩, fun b z => absurd z (noA b), e0.bs, e0.bsz, fun b _ _ => noA b,
      fun b z => absurd z (noA b), e0.funs, e0.frf⟩,
    rfl, e0.bare, Un.kept kp, ⟨_, hns, fun i y v e1 e2 e3 => ?_⟩, fun y c e => ?_, e0.hok.fresh (Nat.le_refl _), fun y c e => ?_, fun q hq => absurd (show q ∈ ([] : List (Addr × Obj)) ++ [] from hq) (by simp), e0.hok.kept kp, I.len⟩
  · have hy : scope.names.lookup y = some .cell ∨ scope.names.lookup y = some .free := hy
    rcases hy with hy | hy
    · exact absurd rfl (L.own _ (PySem.mem_of_lookup hy)).2
    · exact look hy
  · have z : false = true := z
    cases z
  · have e3 : Vis scope y := e3
    rcases e3 with k | k | k
    · have yd : y = d := (L.own _ (PySem.mem_of_lookup k)).1 rfl
      subst yd
      exact (L.dN (List.mem_of_getElem? e1)).elim
    · exact absurd rfl (L.own _ (PySem.mem_of_lookup k)).2
    · obtain ⟨m, hn, hl⟩ := I.loc
      have hvis : Vis X.env.scope y := (L.free _ (PySem.mem_of_lookup k) rfl).elim (fun k => .inr (.inl k)) (fun k => .inr (.inr k))
      obtain ⟨w', r, q⟩ := hl i y v e1 e2 hvis
      obtain ⟨c2, h2⟩ := look k
      refine ⟨w', r, .inr ⟨.inr k, c2, h2, ?_⟩⟩
      have c1 := cm h2
      rcases q with ⟨k', _⟩ | ⟨_, c3, e', z⟩
      · have k' : X.env.scope.names.lookup y = some .local := k'
        rcases L.free _ (PySem.mem_of_lookup k) rfl with k2 | k2 <;> rw [show X.env.scope.names.lookup y = _ from k2] at k' <;> cases k'
      · rw [c1] at e'
        cases e'
        exact cellK (I.freeC y _ c1) z
  · obtain ⟨w', z⟩ := I.cell y c (cm e)
    exact ⟨w', cellK (I.freeC y c (cm e)) z⟩
  · obtain ⟨v, o, ho, hd⟩ := I.cell y c (cm e)
    exact un.free c o ho (I.freeC y c (cm e)) (by simp)
/-- x() in the def that got such a lambda -/
theorem pe_actD {CXg : CXT} {Eg : XK} {Ng : List Str} {qg : Str} {sg : Scope} {g f c' dt : Addr} {cdg pm ctv : Value} {params : Arguments} {body : Expr} {scope : Scope} {k i : Nat} {a d : Str} {di : Int} {dk : Tok} {pn : List (Addr × Obj)} {xe : Value → Shared → Prop} {W : WX} {E : XK} {tb : TE} {p1 p2 : Pos}
    (I : Inv X pins σ H s) (L : LamD X.N d X.env.scope scope) (hf : s.heap.get? f = some (lamO (.ref dt) "<lambda>" (X.env.qual ++ "<lambda>") params body scope (cloFrom X.env.cells scope.names []) pm (.ref c') ctv)) (hfn : H f = none) (hfr : f ∉ frs X.stack)
    (hdt : s.heap.get? dt = some { cls := .type "tuple", data := .seq #[.int di dk] }) (hdn : H dt = none) (hdr : dt ∉ frs X.stack)
    (hbind : ∃ kk : Option (Array Value) → Sem (List (Str × Value)), bindArgs (lamF (.ref dt) "<lambda>" (X.env.qual ++ "<lambda>") params body scope (cloFrom X.env.cells scope.names []) pm (.ref c') ctv) ⟨[], []⟩ = seqItems? (.ref dt) >>= kk ∧ kk (some #[.int di dk]) = pure [(d, .int di dk)])
    (tk : Takes ((cxOf CXg X.prog X.w X.K X.mg X.base Ng qg sg g cdg X.A X.stack s H Eg).tr pn xe) W) (hW : ∀ cls d σ' H', E cls d H' → W cls d σ' H') (hr : Room (k + 1) (X.A.deeper (envOfC qg sg s.heap.objs.size g cdg)))
    (hbody : ∀ (A : Around) (outer : List Env) (s : Shared) (H : Hp), Room k (A.deeper (LamX.lamEnv X scope s.heap.objs.size f c')) → PE (LamX.lamCx X A outer s H E scope f c') body tb)
    (hN : Ng[i]? = some a) (hv : Vis sg a) (hd : (a == ("__debug__" : Str)) = false := by decide) (hcd : (a == ("__classdict__" : Str)) = false := by decide) :
    PE ((cxOf CXg X.prog X.w X.K X.mg X.base Ng qg sg g cdg X.A X.stack s H Eg).tr pn xe) (.Call (.Name a p1) [] [] p2)
      (fun σZ HZ Q => σZ[i]? = some (some (.ref f)) ∧ HZ c' = some (LamX.CodeO c' (X.env.qual ++ "<lambda>")) ∧ tb σ HZ Q) := by
  refine ⟨fun pinsZ sZ σZ HZ Q IZ h => ?_⟩
  obtain ⟨hs, hc, ht⟩ := h
  refine wpAny_Call_Name_kw (thn ((pe_var (pos := p1) (i := i) hN hv hd hcd).run pinsZ sZ σZ HZ (fun v H1 => v = .ref f ∧ H1 = HZ) IZ ⟨.ref f, hs, rfl, rfl⟩) fun u s1 ⟨v, H1, I1, r1, q1⟩ => ?_)
  obtain ⟨ev, eH⟩ := q1
  subst ev
  rw [eH] at I1
  obtain rfl : u = Value.ref f := r1
  have of1 : s1.heap.get? f = some (lamO (.ref dt) "<lambda>" (X.env.qual ++ "<lambda>") params body scope (cloFrom X.env.cells scope.names []) pm (.ref c') ctv) := I1.base.keep f _ hf hfn hfr (fun z => nomatch (show f ∈ ([] : List Addr) from z))
  have od1 : s1.heap.get? dt = some { cls := .type "tuple", data := .seq #[.int di dk] } := I1.base.keep dt _ hdt hdn hdr (fun z => nomatch (show dt ∈ ([] : List Addr) from z))
  refine PySem.W.callWith_F0 ⟨_, _, _, _, of1⟩ ?_
  have un : Un (frs X.stack) [] H HZ s.heap s1.heap := I1.base
  obtain ⟨⟨oc, vs, t, hoc, hdc, hvc⟩, _, _⟩ := I1.hok c' _ hc
  obtain ⟨kk, b1, b2⟩ := hbind
  have rc : codeAny (model X.prog X.w) (X.A.deeper (envOfC qg sg s.heap.objs.size g cdg)) (.call (.ref f) ⟨[], []⟩) (CR (L2.CX X.prog X.w) (envOfC qg sg s.heap.objs.size g cdg :: X.stack) X.prog X.w HZ s1 Q E) s1 := by
    refine PySem.W.kla_callFunE hr.depth of1 rfl L.co L.gen rfl ⟨c', oc, vs, t, rfl, hoc, hdc, hvc⟩ ?_
    rw [b1]
    refine wpAny_bind (wpAny_seqItems od1 rfl ?_)
    rw [b2]
    refine wpAny_pure (wpAny_newFunctionEnv (fun y hy => (L.own y hy).2) (fun y hy => by rw [List.mem_singleton.mp hy]; exact L.dl) (fun h₁ hns hsb => ⟨I1.nolimit.fresh _ hsb, ?_⟩) L.kind)
    show codeAny _ _ (.expr body (LamX.lamEnv X scope s1.heap.objs.size f c')) _ _
    have kp : ∀ b o, s1.heap.get? b = some o → h₁.get? b = some o := fun b o e => hsb.extBut b o (Nat.ne_of_lt (Heap.lt_size e)) (Heap.get?_push_of_some _ e)
    have J := lam_startD (A := X.A.deeper (envOfC qg sg s.heap.objs.size g cdg)) (outer := envOfC qg sg s.heap.objs.size g cdg :: X.stack) (E := E) (scope := scope) (f := f) (c' := c') (tk := s1.toks + [(d, Value.int di dk)].length) I L I1.env0 hr.hd un hns kp
    refine PySem.W.kla_codeExpr (wpAny_mono ((hbody _ _ s1 HZ (hr.deeper _)).run [] _ _ HZ Q J ht) (fun v s' hq => ?_) fun e s' hq => hq)
    obtain ⟨w', H', J', rv, q⟩ := hq
    exact ⟨w', H', J'.os, J'.bare, J'.base, J'.hok, rv, q⟩
  have hx : Passes (L2.CX X.prog X.w) ((cxOf CXg X.prog X.w X.K X.mg X.base Ng qg sg g cdg X.A X.stack s H Eg).tr pn xe) E := passes_call tk hW
  refine wpAny_call (codeAny_mono rc fun r s' hq => ?_)
  cases r with
  | error e => exact hx pinsZ σZ HZ s1 e s' I1 hq
  | ok fl =>
    cases fl with
    | ret u => exact I1.after hq
    | next => exact False.elim hq
    | brk => exact False.elim hq
    | cont => exact False.elim hq
end
section
variable {X : Cx} {Tb : Tbs}
theorem vq_lamD {C : Cn} {d : Str} {di : Int} {dj : Nat} {cp : Pos} {E : XK} {G : List SM} {x a : Str} {g c P : Addr} {k : Nat} {pg : Arguments} {bg : List Stmt} {sg : Scope} {fd : FuncData} {Ng : List Str} {params : Arguments} {body : Expr} {scope : Scope} {mw : R Dt → R Dt} {mb : En → R Dt} {p lpos pos : Pos} (F : FunD X.K x x pg bg sg [] [] g fd) (hg : L2.Gl X x) (hm : X.mg x = some (.ref g))
    (hb : L2.Binds X.K fd [a] []) (Sg : FnScope Ng [a] sg) (hNg : Ng[0]? = some a) (hva : Vis sg a) (hG : ∀ cdv : Value, LamX.GivesTo X Ng x sg g cdv bg a (X.env.qual ++ "<lambda>") (TTw X.K Tb mw))
    (TB : LamX.TabB X.base X.mg c P) (hcode : X.env.code = .ref c) (hmT : (P, X.env.qual ++ "<lambda>") ∈ Tb) (hu : ∀ p ∈ Tb, p.1 = P → p.2 = X.env.qual ++ "<lambda>") (hr : Room (k + 2) X.A) (L : LamD X.N d X.env.scope scope) (hdef : defaultsOf params X.env = ([eval (.Constant (.int di) dj cp) X.env], []))
    (hbind : ∀ (dt : Addr) (dk : Tok) (q : Str) (cl : List (Str × Addr)) (pm cv ctv : Value), ∃ kk : Option (Array Value) → Sem (List (Str × Value)), bindArgs (lamF (.ref dt) "<lambda>" q params body scope cl pm cv ctv) ⟨[], []⟩ = seqItems? (.ref dt) >>= kk ∧ kk (some #[.int di dk]) = pure [(d, .int di dk)])
    (hbody : ∀ (A : Around) (outer : List Env) (s : Shared) (H : Hp) (E : XK) (f c' : Addr), Room k (A.deeper (LamX.lamEnv X scope s.heap.objs.size f c')) → VQ (LamX.lamCx X A outer s H E scope f c') Tb C E G .z mb body)
    (hdb : (x == ("__debug__" : Str)) = false := by decide) (hd : (a == ("__debug__" : Str)) = false := by decide) (hcd : (a == ("__classdict__" : Str)) = false := by decide) :
    VQ X Tb C E G .z (qLam mw mb) (.Call (.Name x p) [.Lambda params body scope lpos] [] pos) := by
  obtain ⟨oc, od, dV, kV, doc, pm, an, cdv, ct, osl, rfl, lk, hcd2, _, _⟩ := F.ex
  refine ⟨fun pins s σ H Q I h => ?_⟩
  obtain ⟨Z, en, w, hq⟩ := h
  refine wpAny_Call_Name_kw (ld_glob I hg hm ?_ hdb)
  refine PySem.W.callWith_K (h₀ := X.base) I.ok.mod.kin F.kp ?_ (by rfl) (by rfl)
  show wpAny _ _ (spliced ((false, eval (.Lambda params body scope lpos) X.env) :: backTo pos (starEach [] X.env))) _ _ s
  refine Calls.spliced_cons (lam_mkD I TB hcode hmT hu w.g.tb hdef (L.has I.ok) fun f c' dt dk pm' ctv H1 s' I1 eN T1 hf hfn hfr hco hdt hdn hdr => ?_)
  refine Calls.spliced_nil ⟨I1.kIn, ?_⟩
  have w1 := w.keepZ eN T1
  have hTT : TTw X.K Tb mw (fun E H' Q' => tQ X.K Tb C E G .z mb σ H' Q') H1 Q := by
    refine ⟨mb en, Z, w1.g.zh, T1, fun E' H' Q' x t hr => ⟨Z, en, w1.keepZ x t, ?_⟩, ?_⟩
    · revert hr
      cases mb en with
      | ok d => exact fun hr v H'' x2 t2 o => hr v H'' x2 t2 o
      | exc y => exact fun hr => hr
      | bad => exact fun hr => hr
    · revert hq
      unfold qLam
      cases mw (mb en) with
      | ok d => exact fun hq v H' x t o => hq v H' (eN.trans x) t (RV.sb (fun b ob e n => by
          obtain ⟨f1, f2, f3⟩ := nw_of e
          refine nw_mk f1 f2 ?_
          rcases f3 with h | h | h
          · exact .inl h
          · exact .inr (.inl h)
          · exact .inr (.inr (eN.none h))) _ _ o)
      | exc y => exact fun hq => hq
      | bad => exact fun hq => hq
  have rc : codeAny (model X.prog X.w) X.A (.call (.ref g) ⟨[.ref f], []⟩) (CR C8.CX0 X.stack X.prog X.w H1 s' Q C8.E0) s' := by
    refine LamX.run_ofS (N := Ng) (ps := [a]) (us := [.ref f]) (vs := [.ref f]) lk hcd2 Sg hr I1.env0 (hb s' [.ref f] I1.kIn rfl) (.cons rfl .nil) rfl fun hr' => ?_
    obtain ⟨t', ht', hq'⟩ := hG cdv f c' s' H1 Q (fun E H' Q' => tQ X.K Tb C E G .z mb σ H' Q') (fun W pn xe E p1 p2 tk hW => pe_actD (i := 0) I1 L hf hfn hfr hdt hdn hdr (hbind _ _ _ _ _ _ _) tk hW hr' (fun A outer s H hr2 => hbody A outer s H E f c' hr2) hNg hva hd hcd) hco hTT
    exact ⟨t', ht'.nox, hq'⟩
  refine wpAny_call (codeAny_mono rc fun r s2 hq => ?_)
  cases r with
  | error e => exact (show False from hq).elim
  | ok fl =>
    cases fl with
    | ret u => exact I1.after hq
    | next => exact False.elim hq
    | brk => exact False.elim hq
    | cont => exact False.elim hq
end
end VL
namespace VL
open PySem PySem.Spec PyProof.Rows L2
/-! ### sorted(xs), ints -/
def sortI (ns : List Int) : List Int := ns.mergeSort fun a b => decide (a ≤ b)
theorem sortI_perm (ns : List Int) : (sortI ns).Perm ns := List.mergeSort_perm _ _
theorem sortI_ord (ns : List Int) : (sortI ns).Pairwise (· ≤ ·) := by
  have h := List.pairwise_mergeSort (le := fun (a b : Int) => decide (a ≤ b)) (fun a b c h1 h2 => by
    have h1 := of_decide_eq_true h1
    have h2 := of_decide_eq_true h2
    exact decide_eq_true (by omega)) (fun a b => by
    by_cases h : a ≤ b
    · rw [decide_eq_true h]; rfl
    · rw [decide_eq_true (show b ≤ a by omega), Bool.or_true]) ns
  exact h.imp fun h => of_decide_eq_true h
theorem sortI_uniq {ns ms : List Int} (h1 : ms.Perm ns) (h2 : ms.Pairwise (· ≤ ·)) : ms = sortI ns :=
  List.Perm.eq_of_pairwise (le := fun (a b : Int) => a ≤ b) (fun a b _ _ h1 h2 => Int.le_antisymm h1 h2) h2 (sortI_ord ns) (h1.trans (sortI_perm ns).symm)
theorem rvs_ints {K : Kf} {S : Hp} : ∀ ns : List Int, RVs K S (ns.map .int) (ns.map V.int)
  | [] => rfl
  | n :: ns => ⟨.int n, _, rfl, rfl, rvs_ints ns⟩
def sortD : List Dt → Option Dt
  | [.list ds] => (ints? ds).map fun ns => .list ((sortI ns).map .int)
  | _ => none
section
variable {X : Cx} {K : Kf} {Tb : Tbs} {C : Cn} {E : XK} {G G' Gl : List SM} {fl fa fb f0 : Fl} {a b e : Expr} {ma mb : En → R Dt} {pos : Pos}
theorem sortD_ok : CallD K .own sortD (rSortedI K) := fun S H ds vs d Q fit s r e k => by
  unfold sortD at e
  split at e
  · rw [Option.map_eq_some_iff] at e
    obtain ⟨ns, h, rfl⟩ := e
    obtain ⟨y, ys, rfl, ⟨p, xs, rfl, h1, h2⟩, h3⟩ := r
    cases h3
    have := ints?_ok h h2
    subst this
    refine ⟨p, ns, rfl, .inl (.inl (s _ _ h1 rfl)), fun ns' l hp hs nl => ?_⟩
    rw [sortI_uniq hp hs]
    exact k _ _ (same_upd nl) (out_lst s nl (rvs_ints _))
  · cases e
/-! ### x.pop() -/
def mPop (i : Nat) : En → R (Dt × En) := fun e => match e.getD i .none with
  | .list ds => match ds.getLast? with
    | some d => .ok (d, e.set i (.list ds.dropLast))
    | none => .bad
  | _ => .bad
theorem md_pop : typeOf (.builtin "list.pop") = pure (.type "method_descriptor") := F.type_list_pop
theorem RVs.dropL {S : Hp} {ds : List Dt} {xs : List V} (h : RVs K S ds xs) : RVs K S ds.dropLast xs.dropLast := by
  rw [List.dropLast_eq_take, List.dropLast_eq_take, h.len]
  exact h.take _
theorem exS_lst {H : Hp} {σ : L2.St} {i : Nat} {aa : Addr} {xs ys : List V} (hi : G[i]? = some .own ∨ G[i]? = some .io) (hs : σ[i]? = some (some (.ref aa))) (h : H aa = some (.lst xs)) : ExS G σ H (upd H aa (.lst ys)) := by
  have xa : ExA aa H (upd H aa (.lst ys)) := exA_upd h rfl
  refine ⟨fun b ob e1 e2 hn => xa.ke b ob (fun z => hn (by subst z; exact ⟨i, hi, hs⟩)) e1 e2, xa.tb, fun b ob hsl e1 e2 e3 => ?_⟩
  by_cases hb : b = aa
  · subst hb
    exact ⟨_, upd_same, rfl, rfl⟩
  · exact ⟨ob, xa.ke b ob hb e1 e3, e2, e3⟩
theorem vm_pop (i : Nat) {x : Str} {p apos cpos : Pos} (hi : (G[i]? = some .own ∨ G[i]? = some .io) := by first | exact Or.inl rfl | exact Or.inr rfl) (io1 : ioOk G = true := by rfl) (hN : X.N[i]? = some x := by rfl) (hv : Vis X.env.scope x := by first | exact Or.inl rfl | exact Or.inr (Or.inl rfl) | exact Or.inr (Or.inr rfl)) (hd : (x == ("__debug__" : Str)) = false := by decide)
    (hcd : (x == ("__classdict__" : Str)) = false := by decide)
    (hbase : attributeBase (.Name x p) "pop" X.env (eval (.Name x p) X.env) = eval (.Name x p) X.env := by rfl) (hline : (apos.endLine == cpos.line) = true := by rfl) :
    VM X Tb C G (mPop i) (.Call (.Attribute (.Name x p) "pop" apos) [] [] cpos) :=
  PE.weak (pe_bm0 F.plainAttrs_list F.slot_list_pop md_pop mt_pop (pe_var hN hv hd hcd) hbase hline) fun σ H Q _ hq => by
    obtain ⟨Z, en, w, hm⟩ := hq
    obtain ⟨aa, hs, ow, za⟩ := w.at hi
    unfold mPop at hm
    revert hm
    cases hd0 : en.getD i .none with
    | list ds =>
      dsimp only
      cases hl : ds.getLast? with
      | none => exact fun hm => hm.elim
      | some d =>
        intro hm
        rw [hd0] at ow
        obtain ⟨xs, q1, q2⟩ := ow
        rw [List.getLast?_eq_getElem?] at hl
        obtain ⟨y, e1, r1⟩ := q2.get hl
        obtain ⟨w2, z2⟩ := mut_lst w io1 hi hs q1 (RVs.dropL q2) za
        refine ⟨.ref aa, hs, .inl ⟨rfl, xs, .inl (.inl q1)⟩, aa, xs, y, rfl, rfl, q1, by rw [q2.len]; exact e1, ?_⟩
        exact hm y _ _ ⟨z2, Sb.refl _, exS_lst hi hs q1⟩ w2 (RV.sb z2 _ _ r1)
    | none => exact fun hm => hm.elim
    | bool _ => exact fun hm => hm.elim
    | int _ => exact fun hm => hm.elim
    | str _ => exact fun hm => hm.elim
    | tuple _ => exact fun hm => hm.elim
    | dict _ => exact fun hm => hm.elim
/-! ### x += e, x[j] += e, ints -/
def augI (g : Int → Int → Int) : Dt → Dt → Option Dt
  | .int i, .int j => some (.int (g i j))
  | _, _ => none
def sAugN (g : Int → Int → Int) (i : Nat) (m : En → R Dt) : En → RS := fun e => RS.ofR (m e) fun y => match augI g (e.getD i .none) y with
  | some d => .nx (e.set i d)
  | none => .bad
theorem vs_augN (i : Nat) {x : Str} {p : Pos} {e : Expr} {m : En → R Dt} {op : Operator} {g : Int → Int → Int} (hop : PIp X op (ipI g)) (h : VQ X Tb C E G .z m e) (hN : X.N.Nodup) (hz : G[i]? = some .z := by rfl) (hi : X.N[i]? = some x := by rfl) (hx : Loc X.env.scope x := by first | exact Or.inl rfl | exact Or.inr rfl) (hg : i < G.length := by first | decide | exact of_decide_eq_true rfl)
    (hf : X.fn x = true ∨ X.env.scope.names.lookup x = some .local := by first | exact .inl rfl | exact .inr rfl | assumption) :
    VS X Tb C E f0 G (G.set i .z) Gl (sAugN g i m) (.AugAssign (.Name x p) op e pos) :=
  PS.weak (ps_aug hN hi hx h hop hf) fun D σ H _ hq => by
    obtain ⟨Z, en, w, hm⟩ := hq
    obtain ⟨ov, h1, v, rfl, rv⟩ := w.sl i _ hz
    refine ⟨v, h1, Z, en, w, ?_⟩
    unfold sAugN at hm
    revert hm
    cases m en with
    | exc x => exact fun hm => EXC.toS w.g hm
    | bad => exact fun hm => hm
    | ok dy =>
      dsimp only [RS.ofR]
      cases ha : augI g (en.getD i .none) dy with
      | none => exact fun hm => hm.elim
      | some d =>
        intro hm y H1 x1 t1 o1
        unfold augI at ha
        split at ha
        · rename_i i1 j1 hi1
          cases ha
          rw [hi1] at rv
          have rv : v = .int i1 := rv
          have o1 : y = .int j1 := o1
          exact ⟨i1, j1, rv, o1, hm _ _ _ (nw_s (w.g.zh.trans x1.ke)) ((w.ext x1 t1).setZ hg (show RV X.K _ (.int (g i1 j1)) (.int (g i1 j1)) from rfl))⟩
        · cases ha
theorem pget_list : PGet X (rIxL X.K) := by
  intro pins s σ H x y v u Q I rx ry h
  obtain ⟨p, xs, i, z, rfl, rfl, hq, he, q⟩ := h
  cases rx
  obtain ⟨t, rfl⟩ := ry
  obtain ⟨its, r, pl, hz⟩ := I.list hq
  obtain ⟨j, h1, h2, h3, h4, h5⟩ := atI_get he
  obtain ⟨w, ew, rw'⟩ := r.get h2
  have hl := r.length
  have hn := line63
  have fin : EP X pins σ Q w s := ⟨z, H, I, rw', q⟩
  by_cases h0 : 0 ≤ i
  · have hj : i.toNat = j := by
      rw [seqIndex_of h0 h5] at h1
      exact Option.some.inj h1
    exact wpAny_getItem_list pl.isList h0 (by omega) (by rw [hj]; simpa using ew) fin
  · have hj : (i + (its.toArray.size : Int)).toNat = j := by
      rw [seqIndex_neg (by omega) h4] at h1
      rw [List.size_toArray, ← hl]
      exact Option.some.inj h1
    exact wpAny_getItem_list_neg pl.isList (by omega) (by rw [List.size_toArray] <;> omega) (by omega) (by rw [hj]; simpa using ew) fin
def sAugS (g : Int → Int → Int) (i : Nat) (mi m : En → R Dt) : En → RS := fun e => RS.ofR (mi e) fun j => match ixD (e.getD i .none) j with
    | some x => RS.ofR (m e) fun y => match augI g x y with
      | some z => match stoD (e.getD i .none) j z with
        | some d' => .nx (e.set i d')
        | none => .bad
      | none => .bad
    | none => .bad
theorem vs_augS (i : Nat) {x : Str} {j e : Expr} {p p2 : Pos} {mi m : En → R Dt} {op : Operator} {g : Int → Int → Int} (hop : PIp X op (ipI g)) (hj : VQ X Tb C E G .z mi j) (h : VQ X Tb C E G .z m e) (hi : (G[i]? = some .own ∨ G[i]? = some .io) := by first | exact Or.inl rfl | exact Or.inr rfl) (io1 : ioOk G = true := by rfl) (hN : X.N[i]? = some x := by rfl) (hv : Vis X.env.scope x := by first | exact Or.inl rfl | exact Or.inr (Or.inl rfl) | exact Or.inr (Or.inr rfl)) (hd : (x == ("__debug__" : Str)) = false := by decide)
    (hcd : (x == ("__classdict__" : Str)) = false := by decide)
    (ha : ∀ ov iv new, augStore j ov iv new = (do holding [new, ov, iv] (setItem ov iv new); release [new, ov, iv] []; pure .next) := by intros; rfl) :
    VS X Tb C E f0 G G Gl (sAugS g i mi m) (.AugAssign (.Subscript (.Name x p) j p2) op e pos) :=
  PS.weak (ps_augS (pe_var hN hv hd hcd) hj pget_list h hop set_list ha) fun D σ H _ hq => by
    obtain ⟨Z, en, w, hm⟩ := hq
    obtain ⟨aa, hs, ow, za⟩ := w.at hi
    refine ⟨.ref aa, hs, Z, en, w, ?_⟩
    unfold sAugS at hm
    revert hm
    cases mi en with
    | exc x => exact fun hm => EXC.toS w.g hm
    | bad => exact fun hm => hm.elim
    | ok dj =>
      dsimp only [RS.ofR]
      cases hx : ixD (en.getD i .none) dj with
      | none => exact fun hm => hm.elim
      | some dx =>
        dsimp only
        intro hm y1 H1 x1 t1 o1
        have w1 := w.ext x1 t1
        obtain ⟨a1, hs1, ow1, za1⟩ := w1.at hi
        rw [hs] at hs1
        cases hs1
        unfold ixD at hx
        split at hx
        · rename_i _ ds k hds
          rw [hds] at ow1
          obtain ⟨xs, q1, q2⟩ := ow1
          obtain ⟨v, hv1, hv2⟩ := q2.atI hx
          have ey : y1 = .int k := o1
          refine ⟨aa, xs, k, v, rfl, ey, .inl (.inl q1), hv1, _, en, w1, ?_⟩
          revert hm
          cases m en with
          | exc x => exact fun hm => EXC.of (EXC.toS w.g hm) x1
          | bad => exact fun hm => hm.elim
          | ok dy =>
            dsimp only [RS.ofR]
            cases hz : augI g dx dy with
            | none => exact fun hm => hm.elim
            | some dz =>
              dsimp only
              cases hst : stoD (en.getD i .none) (.int k) dz with
              | none => exact fun hm => hm.elim
              | some d' =>
                intro hm y2 H2 x2 t2 o2
                have w2 := w1.ext x2 t2
                obtain ⟨a2, hs2, ow2, za2⟩ := w2.at hi
                rw [hs] at hs2
                cases hs2
                unfold augI at hz
                split at hz
                · rename_i i1 j1
                  cases hz
                  have hv2 : v = .int i1 := hv2
                  have o2 : y2 = .int j1 := o2
                  refine ⟨i1, j1, hv2, o2, ?_⟩
                  rw [hds] at hst ow2
                  obtain ⟨xs2, p1, p2⟩ := ow2
                  unfold stoD at hst
                  dsimp only at hst
                  rw [Option.map_eq_some_iff] at hst
                  obtain ⟨jj, hjj, rfl⟩ := hst
                  have s2 : Sb Z (nw (nw Z H H1) H1 H2) := (nw_s (w.g.zh.trans x1.ke)).trans (nw_s (w1.g.zh.trans x2.ke))
                  obtain ⟨w3, z3⟩ := mut_lst w2 io1 hi hs p1 (RVs.set (show RV X.K _ (.int (g i1 j1)) (.int (g i1 j1)) from rfl) jj p2) za2
                  exact ⟨aa, xs2, k, jj, rfl, ey, p1, by rw [p2.len]; exact hjj, hm _ _ _ (s2.trans z3) w3⟩
                · cases hz
        · rename_i _ ds k hds
          rw [hds] at ow1
          exact ow1.elim
        · rename_i _ ds k hds
          rw [hds] at ow1
          exact ow1.elim
        · cases hx
end
end VL
namespace VL
open PySem PySem.Spec PyProof.Rows L2
/-! ### try: .. several except clauses without a name -/
abbrev Hd := (Str → Option Bool) × (En → RS)
def hsel (L : Nat) (x : Ec) : List Hd → RS
  | [] => .bad
  | (cat, ms) :: r => match cat x.cls with
    | some true => match ms (List.replicate L .none) with
      | .nx e' => .nx e'
      | .rt d e' => .rt d e'
      | _ => .bad
    | some false => hsel L x r
    | none => .bad
def sTryM (L : Nat) (mb : En → RS) (hs : List Hd) : En → RS := fun e => match mb e with
  | .exc x => hsel L x hs
  | r => r
section
variable {X : Cx} {Tb : Tbs} {C : Cn} {G G' Gl : List SM} {pos : Pos}
inductive VHds (X : Cx) (Tb : Tbs) (L : Nat) (G' Gl : List SM) : List ExceptHandler → List Value → List Hd → Prop
  | nil : VHds X Tb L G' Gl [] [] []
  | cons {x : Str} {c : Value} {cat : Str → Option Bool} {ms : En → RS} {b₀ : Stmt} {suite : List Stmt} {np pos' : Pos} {hds : List ExceptHandler} {cs : List Value} {l : List Hd} (hc : Names X x c)
      (hcat : ∀ s b, cat s = some b → PySem.W.exmOne X.K (.ref (He.ga X.K s)) c = some b)
      (hsu : ∀ (a : Addr) (oe : Obj) (pn : List (Addr × Obj)) (C' : Cn), C'.io = none → VSs (X.suite a ((a, oe) :: pn)) Tb C' E00 .z (List.replicate L .dead) G' Gl ms (b₀ :: suite)) (r : VHds X Tb L G' Gl hds cs l) :
      VHds X Tb L G' Gl (.ExceptHandler (some (.Name x np)) none (b₀ :: suite) pos' :: hds) (c :: cs) ((cat, ms) :: l)
def hTs (X : Cx) (Tb : Tbs) (L : Nat) (G' Gl : List SM) (h : Value × Hd) : Value × (Addr → Value → Option Addr → TS) :=
  (h.1, fun a cls d D σ H => ∃ C' : Cn, C'.io = none ∧ (σ.length = X.N.length → tS X.K Tb C' E00 .z (List.replicate L .dead) G' Gl h.2.2 D σ H))
theorem VHds.ok {L : Nat} {hds : List ExceptHandler} {cs : List Value} {l : List Hd} (h : VHds X Tb L G' Gl hds cs l) : HdsOk X hds ((cs.zip l).map (hTs X Tb L G' Gl)) := by
  induction h with
  | nil => exact .nil
  | cons hc hcat hsu r ih =>
    refine .cons hc (fun a oe cls d pn hz hd => ⟨fun pins s σ H D I h => ?_⟩) ih
    obtain ⟨C', h1, h2⟩ := h
    exact (hsu a oe pn C' h1).run pins s σ H D I (h2 I.len)
theorem vs_tryMany {body : List Stmt} {h₀ : ExceptHandler} {hds : List ExceptHandler} {cs : List Value} {hl : List Hd} {mb : En → RS} {L : Nat}
    (hs : X.stack = X.env :: X.outer) (hf : X.env.frame = some X.env.locals) (hL : X.N.length = L) (hio : C.io = none)
    (hb : ∀ (W : WX) (pn : List (Addr × Obj)) (xe : Value → Shared → Prop) (E : XK) (C' : Cn), C'.H0 = C.H0 → C'.io = none → Sb C.Z0 C'.Z0 → Takes (X.tr pn xe) W → (∀ cls d σ' H', E cls d H' → W cls d σ' H') → PassesOwn (model X.prog X.w) X.A X.env xe → VSs (X.tr pn xe) Tb C' E .z G G' Gl mb body)
    (hh : VHds X Tb L G' Gl (h₀ :: hds) cs hl) : VS X Tb C E00 .z G G' Gl (sTryM L mb hl) (.Try body (h₀ :: hds) [] [] pos) := by
  have hx := ps_try_many (X := X) (body := body) (h₀ := h₀) (hds := hds) (pos := pos) (l := (cs.zip hl).map (hTs X Tb L G' Gl))
    (tb := fun W D σ H => ∃ (E : XK) (C' : Cn), C'.H0 = C.H0 ∧ C'.io = none ∧ Sb C.Z0 C'.Z0 ∧ (∀ cls d σ' H', E cls d H' → W cls d σ' H') ∧ tS X.K Tb C' E .z G G' Gl mb D σ H)
    hs hf LamX.takes0 (fun W pn xe tk po => ⟨fun pins s σ H D I h => ?_⟩) hh.ok
  · refine PS.weak hx fun D σ H _ hq => ?_
    obtain ⟨Z, en, w, hm⟩ := hq
    unfold sTryM at hm
    refine ⟨fun cls d H' => ∀ σ', wMany X.K (fun _ _ _ _ => False) D ((cs.zip hl).map (hTs X Tb L G' Gl)) cls d σ' H', C.up Z, rfl, hio, w.g.zz, fun cls d σ' H' h => h σ', Z, en, w.up, ?_⟩
    revert hm
    cases hmb : mb en with
    | nx e' => exact fun hm σ' Z' H' s' w' => hm σ' Z' H' s' (w'.down w.g)
    | bk e' => exact fun hm σ' Z' H' s' w' => hm σ' Z' H' s' (w'.down w.g)
    | ct e' => exact fun hm σ' Z' H' s' w' => hm σ' Z' H' s' (w'.down w.g)
    | rt d e' => exact fun hm v Z' H' g io r => hm v Z' H' (w.g.down g) (fun a ha => by rw [hio] at ha; cases ha) r
    | bad => exact fun hm => hm
    | exc y =>
      dsimp only
      intro hm dx Z' H' g hex σ'
      revert hm
      generalize hall : h₀ :: hds = all at hh
      clear hall hx
      induction hh with
      | nil => exact fun hm => hm.elim
      | @cons x c cat ms b₀ suite np pos' hds cs l hc hcat hsu r ih =>
        unfold hsel
        cases hcy : cat y.cls with
        | none => exact fun hm => hm.elim
        | some bb =>
          cases bb with
          | false =>
            dsimp only
            intro hm
            exact ⟨false, hcat _ _ hcy, (fun z => by cases z), fun _ => ih hm⟩
          | true =>
            dsimp only
            intro hm
            refine ⟨true, hcat _ _ hcy, fun _ a na => ⟨C.up Z, hio, fun hlen => ?_⟩, fun z => by cases z⟩
            have wd : Wf X.K Tb (C.up Z) (List.replicate L .dead) Z' (List.replicate L .none) σ' H' := wf_dead g (by rw [← hL, ← hlen])
            refine ⟨Z', _, wd, ?_⟩
            dsimp only
            revert hm
            cases ms (List.replicate L .none) with
            | nx e' => exact fun hm σ2 Z2 H2 s2 w3 => hm _ Z2 H2 (g.zz.trans s2) (w3.down w.g)
            | bk e' => exact fun hm => hm.elim
            | ct e' => exact fun hm => hm.elim
            | rt d e' => exact fun hm v Z2 H2 g2 io r => hm v Z2 H2 (w.g.down g2) (fun a ha => by rw [hio] at ha; cases ha) r
            | exc z => exact fun hm => hm.elim
            | bad => exact fun hm => hm.elim
  · obtain ⟨E, C', h1, h2, h3, h4, h5⟩ := h
    exact (hb W pn xe E C' h1 h2 h3 tk h4 po).run pins s σ H D I h5
end
end VL
namespace VL
open PySem PySem.Spec PyProof.Rows L2
/-! ### sorted(xs), alike data of any kind -/
def isTc : Dt → Bool
  | .tuple (_ :: _) => true
  | _ => false
def isNt : Dt → Bool
  | .none => false
  | .tuple _ => false
  | _ => true
def srtOk (ds : List Dt) : Bool := (ds.all fun d => ds.all fun d' => PySem.W.alike d d') && ((ds.all isTc || ds.all isNt) && ds.all fun d => noDict d && decide (d.depth ≤ 40))
def leA (a b : Dt) : Bool := PySem.W.dataLe false (fun d : Dt => d) a b
def sortA (ds : List Dt) : List Dt := ds.mergeSort leA
theorem sortA_perm (ds : List Dt) : (sortA ds).Perm ds := List.mergeSort_perm _ _
def sortD2 : List Dt → Option Dt
  | [.list ds] => if srtOk ds = true then some (.list (sortA ds)) else none
  | _ => none
theorem srt_al {ds : List Dt} (h : srtOk ds = true) : PySem.W.AllAlike ds ∧ PySem.W.Sortable ds ∧ (∀ d ∈ ds, noDict d = true) ∧ ∀ d ∈ ds, d.depth ≤ 40 := by
  unfold srtOk at h
  rw [Bool.and_eq_true, Bool.and_eq_true, Bool.or_eq_true, List.all_eq_true, List.all_eq_true, List.all_eq_true, List.all_eq_true] at h
  obtain ⟨h1, h2, h3⟩ := h
  refine ⟨fun d hd d' hd' => ?_, ?_, fun d hd => ?_, fun d hd => ?_⟩
  · have := h1 d hd
    rw [List.all_eq_true] at this
    exact this d' hd'
  · rcases h2 with h2 | h2
    · refine .inl fun d hd => ?_
      have := h2 d hd
      unfold isTc at this
      split at this
      · exact ⟨_, _, rfl⟩
      · cases this
    · refine .inr fun d hd => ?_
      have := h2 d hd
      cases d with
      | none => cases this
      | tuple _ => cases this
      | _ => exact ⟨fun z => (by cases z), fun _ z => (by cases z)⟩
  · have := h3 d hd
    rw [Bool.and_eq_true] at this
    exact this.1
  · have := h3 d hd
    rw [Bool.and_eq_true] at this
    exact of_decide_eq_true this.2
def rSortedA (K : Kf) : List V → Hp → VK → Prop := fun vs H Q => ∃ (a : Addr) (bs : List (V × Dt)), vs = [V.ref a] ∧ SqL K H a (bs.map (·.1)) ∧ (∀ b ∈ bs, Dp K H b.1 b.2) ∧ PySem.W.AllAlike (bs.map (·.2)) ∧ PySem.W.Sortable (bs.map (·.2)) ∧ (∀ b ∈ bs, b.2.depth ≤ 40) ∧
  ∀ p : Addr, H p = none → Q (.ref p) (upd H p (.lst ((bs.mergeSort (PySem.W.dataLe false (·.2))).map (·.1))))
theorem each_of {α : Type} {P : Value → α → Prop} : ∀ {xs : List V} {us : List Value} {bs : List α} {f : α → V}, xs = bs.map f → Vals xs us → (∀ b ∈ bs, ∀ u, RelV (f b) u → P u b) → PySem.W.EachIs P us bs
  | _, _, [], f, h, r, _ => by
    subst h
    cases r
    exact .nil
  | _, _, b :: bs, f, h, r, k => by
    subst h
    rw [List.map_cons] at r
    cases r with
    | cons r1 r2 => exact .cons (k b List.mem_cons_self _ r1) (each_of rfl r2 fun b' hb => k b' (List.mem_cons_of_mem _ hb))
theorem vals_each {α : Type} {f : α → V} : ∀ {us : List Value} {bs : List α}, PySem.W.EachIs (fun u b => RelV (f b) u) us bs → Vals (bs.map f) us
  | _, _, .nil => .nil
  | _, _, .cons h t => .cons h (vals_each t)
section
variable {X : Cx} {K : Kf} {Tb : Tbs} {C : Cn} {E : XK} {G : List SM} {a : Expr} {ma : En → R Dt} {pos : Pos}
theorem cr_sortedA (hu : X.A.units + 64 < cLine) : CallR X (.builtin "sorted") (rSortedA X.K) := by
  intro pins s σ H vs us Q I r h
  obtain ⟨a, bs, rfl, hs, hd, hal, hk, hdp, q⟩ := h
  obtain ⟨its, rv, hl, hz⟩ := I.list hs
  rw [Vals.ref1 r]
  have e1 : PySem.W.EachIs (fun u (b : V × Dt) => RelV b.1 u) its bs := each_of rfl rv fun b _ u r => r
  have e2 : PySem.W.EachIs (fun u (b : V × Dt) => ∃ as, Reads s.heap u b.2 as) its bs := each_of rfl rv fun b hb u r => Dp.reads I _ _ _ (hd b hb) r
  refine PySem.W.sorted_data (enc := (·.2)) hl.isList e1 e2 hal hk (by rw [List.length_map] at hz; exact hz) (fun b hb => by have := hdp b hb; omega) fun out h1 h2 => ?_
  obtain ⟨ep, he'⟩ := PyProof.Rows.sortedAll_at s.heap its out.toArray
  have hlen : ((bs.mergeSort (PySem.W.dataLe false (·.2))).map (·.1)).length ≤ sizeLine := by
    rw [List.length_map, List.length_mergeSort]
    rw [List.length_map] at hz
    exact hz
  exact ⟨.ref _, upd H (s.heap.objs.size + 1) (.lst ((bs.mergeSort (PySem.W.dataLe false (·.2))).map (·.1))), I.laid (t' := s.toks) (fun _ _ => PyProof.Rows.sortedAll_old) (Nat.le_succ _) ⟨hlen, out, ep, vals_each h2, he'⟩, rfl, q _ (I.hok.fresh (Nat.le_succ _))⟩
theorem rvs_zip {S : Hp} : ∀ {ds : List Dt} {xs : List V}, RVs K S ds xs → ∃ bs : List (V × Dt), bs.map (·.1) = xs ∧ bs.map (·.2) = ds ∧ ∀ b ∈ bs, RV K S b.2 b.1
  | [], xs, r => by cases r; exact ⟨[], rfl, rfl, fun _ h => (by cases h)⟩
  | d :: ds, xs, r => by
    obtain ⟨y, ys, rfl, h1, h2⟩ := r
    obtain ⟨bs, rfl, rfl, h⟩ := rvs_zip h2
    refine ⟨(y, d) :: bs, rfl, rfl, fun b hb => ?_⟩
    rcases List.mem_cons.mp hb with e | hb
    · subst e
      exact h1
    · exact h b hb
theorem zip_rvs {S : Hp} : ∀ {bs : List (V × Dt)}, (∀ b ∈ bs, RV K S b.2 b.1) → RVs K S (bs.map (·.2)) (bs.map (·.1))
  | [], _ => rfl
  | b :: bs, h => ⟨b.1, _, rfl, h b List.mem_cons_self, zip_rvs fun b' hb => h b' (List.mem_cons_of_mem _ hb)⟩
theorem sortD2_ok : CallD K .own sortD2 (rSortedA K) := fun S H ds vs d Q fit s r e k => by
  unfold sortD2 at e
  split at e
  · rename_i ds'
    split at e
    · rename_i hok
      cases e
      obtain ⟨y, ys, rfl, ⟨p, xs, rfl, h1, h2⟩, h3⟩ := r
      cases h3
      obtain ⟨bs, rfl, rfl, hb⟩ := rvs_zip h2
      obtain ⟨a1, a2, a3, a4⟩ := srt_al hok
      refine ⟨p, bs, rfl, .inl (.inl (s _ _ h1 rfl)), fun b m => RV.dp s _ _ (a3 _ (List.mem_map_of_mem m)) (hb b m), a1, a2, fun b m => a4 _ (List.mem_map_of_mem m), fun l nl => ?_⟩
      have hp : (bs.mergeSort (PySem.W.dataLe false (·.2))).Perm bs := List.mergeSort_perm _ _
      have em : (bs.mergeSort (PySem.W.dataLe false (·.2))).map (·.2) = sortA (bs.map (·.2)) := by
        unfold sortA
        exact List.map_mergeSort (r := PySem.W.dataLe false (·.2)) (s := leA) (f := fun b : V × Dt => b.2) (fun _ _ _ _ => rfl)
      have rr := zip_rvs (K := K) (S := S) (bs := bs.mergeSort (PySem.W.dataLe false (·.2))) fun b m => hb b (hp.mem_iff.mp m)
      rw [em] at rr
      exact k _ _ (same_upd nl) (out_lst s nl rr)
    · cases e
  · cases e
/-! ### list(range(n)), tuple(range(n)) -/
def lrg1 : Dt → Option Dt
  | .int j => if -(2 ^ 62) ≤ j ∧ j < 2 ^ 62 ∧ j.toNat ≤ 2 ^ 24 then some (.list (rangeD 0 j)) else none
  | _ => none
def trg1 : Dt → Option Dt
  | .int j => if -(2 ^ 62) ≤ j ∧ j < 2 ^ 62 ∧ j.toNat ≤ 2 ^ 24 then some (.tuple (rangeD 0 j)) else none
  | _ => none
theorem rvs_rg {S : Hp} (a : Int) (f : Nat → Nat) : ∀ is : List Nat, RVs K S (is.map fun (i : Nat) => PyData.int (a + (i : Nat))) (is.map fun i => V.int (a + (i : Nat)))
  | [] => rfl
  | i :: is => ⟨_, _, rfl, rfl, rvs_rg a f is⟩
theorem rvs_range {S : Hp} (a b : Int) : RVs K S (rangeD a b) (rgV a b) := rvs_rg a id _
theorem vq_listRg1 {p p2 q : Pos} (hm : X.mg "list" = none) (hm2 : X.mg "range" = none) (ha : VQ X Tb C E G .z ma a) (hc : X.calm = true) (hg : L2.Gl X "list" := by rfl) (hg2 : L2.Gl X "range" := by rfl)
    (na : starEach [a] X.env = (false, eval a X.env) :: starEach [] X.env := by rfl)
    (nb : starEach [Expr.Call (.Name "range" p2) [a] [] q] X.env = (false, eval (Expr.Call (.Name "range" p2) [a] [] q) X.env) :: starEach [] X.env := by rfl) :
    VQ X Tb C E G .own (q1 lrg1 ma) (.Call (.Name "list" p) [.Call (.Name "range" p2) [a] [] q] [] pos) :=
  PE.weak (pe_listRg hc hg hm (prg_1 hg2 hm2 ha na) nb) fun σ H Q _ hq => by
    obtain ⟨Z, en, w, hm⟩ := hq
    refine ⟨Z, en, w, ?_⟩
    unfold q1 at hm
    revert hm
    cases ma en with
    | exc x => exact fun hm => hm
    | bad => exact fun hm => hm
    | ok d =>
      dsimp only [R.bind]
      cases d with
      | int j =>
        unfold lrg1
        dsimp only
        by_cases hb : -(2 ^ 62) ≤ j ∧ j < 2 ^ 62 ∧ j.toNat ≤ 2 ^ 24
        · rw [if_pos hb]
          intro hm v H1 x1 t1 o1
          have ev : v = .int j := o1
          refine ⟨j, ev, ⟨by decide, by decide, hb.1, hb.2.1, by rw [Int.sub_zero]; exact hb.2.2⟩, fun l nl => ?_⟩
          have o2 := out_lst (K := X.K) (Sel.sub (Fl.t? .z) Z H H1) nl (rvs_range 0 j)
          exact hm _ _ (x1.trans (Ex.of_same (same_upd nl))) (t1.ext (same_upd nl)) (o2.comp x1 (Ex.of_same (same_upd nl)))
        · rw [if_neg hb]
          exact fun hm => hm.elim
      | _ => exact fun hm => hm.elim
theorem vq_tupRg1 {p p2 q : Pos} (hm : X.mg "tuple" = none) (hm2 : X.mg "range" = none) (ha : VQ X Tb C E G .z ma a) (hc : X.calm = true) (hg : L2.Gl X "tuple" := by rfl) (hg2 : L2.Gl X "range" := by rfl)
    (na : starEach [a] X.env = (false, eval a X.env) :: starEach [] X.env := by rfl)
    (nb : starEach [Expr.Call (.Name "range" p2) [a] [] q] X.env = (false, eval (Expr.Call (.Name "range" p2) [a] [] q) X.env) :: starEach [] X.env := by rfl) :
    VQ X Tb C E G .z (q1 trg1 ma) (.Call (.Name "tuple" p) [.Call (.Name "range" p2) [a] [] q] [] pos) :=
  PE.weak (pe_tupRg hc hg hm (prg_1 hg2 hm2 ha na) nb) fun σ H Q _ hq => by
    obtain ⟨Z, en, w, hm⟩ := hq
    refine ⟨Z, en, w, ?_⟩
    unfold q1 at hm
    revert hm
    cases ma en with
    | exc x => exact fun hm => hm
    | bad => exact fun hm => hm
    | ok d =>
      dsimp only [R.bind]
      cases d with
      | int j =>
        unfold trg1
        dsimp only
        by_cases hb : -(2 ^ 62) ≤ j ∧ j < 2 ^ 62 ∧ j.toNat ≤ 2 ^ 24
        · rw [if_pos hb]
          intro hm v H1 x1 t1 o1
          have ev : v = .int j := o1
          refine ⟨j, ev, ⟨by decide, by decide, hb.1, hb.2.1, by rw [Int.sub_zero]; exact hb.2.2⟩, fun l nl => ?_⟩
          have o2 := out_tup (K := X.K) (Sel.sub (Fl.t? .z) Z H H1) nl (rvs_range 0 j)
          exact hm _ _ (x1.trans (Ex.of_same (same_upd nl))) (t1.ext (same_upd nl)) (o2.comp x1 (Ex.of_same (same_upd nl)))
        · rw [if_neg hb]
          exact fun hm => hm.elim
      | _ => exact fun hm => hm.elim
/-! ### shifts -/
def shlD : Dt → Dt → Option Dt
  | .int i, .int j => if CPow i j then some (.int (i * 2 ^ j.toNat)) else none
  | _, _ => none
theorem shlD_ok : OpD K .z shlD (rI CPow fun i j => .int (i * 2 ^ j.toNat)) := fun S H d1 d2 x y d Q fit s r1 r2 e k => by
  unfold shlD at e
  split at e
  · split at e
    · rename_i hl
      cases e; cases r1; cases r2
      exact ⟨_, _, rfl, rfl, hl, k _ H (Same.refl _) rfl⟩
    · cases e
  · cases e
def shrD : Dt → Dt → Option Dt
  | .int i, .int j => if 0 ≤ j then some (.int (i / 2 ^ j.toNat)) else none
  | _, _ => none
theorem shrD_ok : OpD K .z shrD (rI (fun _ j => 0 ≤ j) fun i j => .int (i / 2 ^ j.toNat)) := fun S H d1 d2 x y d Q fit s r1 r2 e k => by
  unfold shrD at e
  split at e
  · split at e
    · rename_i hl
      cases e; cases r1; cases r2
      exact ⟨_, _, rfl, rfl, hl, k _ H (Same.refl _) rfl⟩
    · cases e
  · cases e
end
end VL
namespace VL
open PySem PySem.Spec PyProof.Rows L2
/-! ### try: .. several except clauses, all with one name -/
/-- an exception that has come down to the frame: it flies there, and the frame may be had again at any heap where it does -/
structure Low (X : Cx) (pins : List (Addr × Obj)) (σ : L2.St) (H : Hp) (B : Heap) (a : Addr) (cls : Value) (d : Option Addr) (t : Shared) : Prop where
  fl : HandSPX.FlyingZ B (X.env :: X.outer) a (Zc cls d) t.heap
  re : ∀ h, HandSPX.FlyingZ B (X.env :: X.outer) a (Zc cls d) h → t.heap.UpToSlots h → Inv X pins σ H { t with heap := h }
  new : H a = none
  fr : X.env.frame = some X.env.locals
section
variable {X : Cx} {pins : List (Addr × Obj)} {σ : L2.St} {H : Hp} {B : Heap} {a : Addr} {cls : Value} {d : Option Addr} {t : Shared}
theorem Low.up (L : Low X pins σ H B a cls d t) {h : Heap} (f : HandSPX.FlyingZ B (X.env :: X.outer) a (Zc cls d) h) (u : t.heap.UpToSlots h) : Low X pins σ H B a cls d { t with heap := h } :=
  ⟨f, fun h2 f2 u2 => L.re h2 f2 (u.trans u2), L.new, L.fr⟩
theorem Low.inv (L : Low X pins σ H B a cls d t) : Inv X pins σ H t := L.re t.heap L.fl (Heap.UpToSlots.refl _)
/-- the frame with the exception pinned: what a clause runs in -/
theorem Low.suite (L : Low X pins σ H B a cls d t) : ∃ oe, t.heap.get? a = some oe ∧ Zc cls d oe ∧ (∃ vs, oe.data = .fields vs) ∧ Inv (X.suite a ((a, oe) :: (X.pn ++ pins))) [] σ H t := by
  obtain ⟨oe, vs, ho, hz, hv⟩ := L.fl.there
  have off : a ∉ frs (X.env :: X.outer) := fun m => by
    obtain ⟨_, o2, e2, k⟩ := L.fl.2.2.1.mem m
    have : o2 = oe := Option.some.inj (e2.symm.trans ho)
    exact k vs (this ▸ hv)
  refine ⟨oe, ho, hz, ⟨vs, hv⟩, L.inv.suite ho hv L.new (fun z => off ?_) fun m => ?_⟩
  · rw [z]
    exact List.mem_filterMap.mpr ⟨_, List.mem_cons_self, L.fr⟩
  · obtain ⟨e, m1, m2⟩ := List.mem_filterMap.mp m
    exact off (List.mem_filterMap.mpr ⟨e, List.mem_cons_of_mem _ m1, m2⟩)
/-- a clause's class is read -/
theorem Low.read (L : Low X pins σ H B a cls d t) {x : Str} {c : Value} {np : Pos} (hc : Names X x c) {Q E : Value → Shared → Prop} (q : Q c t) :
    wpAny (model X.prog X.w) (X.A.mark (some (.ref a))) (eval (.Name x np) X.env) Q E t := by
  obtain ⟨oe, _, _, _, S⟩ := L.suite
  rcases hc with ⟨g1, g2, g3 | ⟨g3, g4, g5⟩⟩
  · exact ld_glob (X := X.suite a _) S g1 g3 q g2
  · exact ld_blt (X := X.suite a _) S g1 g3 g4 q g5 g2
/-- one clause: it matches, and its suite is run with the name stored, or the next one is asked -/
theorem Low.clause (L : Low X pins σ H B a cls d t) {x n : Str} {c : Value} {i : Nat} {np pos : Pos} {b₀ : Stmt} {sts : List Stmt} {rest : List ExceptHandler} {b : Bool} {D : Ends} {ts : TS} (hN : X.N.Nodup) (hi : X.N[i]? = some n) (hl : X.env.kindOf n = some .local)
    (hc : Names X x c) (hb : PySem.W.exmOne X.K cls c = some b)
    (yes : b = true → ∀ oe pn, Zc cls d oe → (∃ vs, oe.data = .fields vs) → PSs (X.suite a ((a, oe) :: pn)) (b₀ :: sts) ts)
    (wish : b = true → ts { nx := fun σ' H' => D.nx (σ'.set i none) H', rt := D.rt, bk := fun σ' H' => D.bk (σ'.set i none) H', ct := fun σ' H' => D.ct (σ'.set i none) H' } (σ.set i (some (.ref a))) H)
    (no : b = false → wpAny (model X.prog X.w) X.A (handleBy (.ref a) X.env rest) (SP X pins D) X.xe t) :
    wpAny (model X.prog X.w) X.A (handleBy (.ref a) X.env (.ExceptHandler (some (.Name x np)) (some n) (b₀ :: sts) pos :: rest)) (SP X pins D) X.xe t := by
  obtain ⟨oe, ho, hz, hv, S⟩ := L.suite
  have look : PySem.W.Looks (model X.prog X.w) t.heap (typeOf (.ref a)) cls := fun _ _ _ _ k q => wpAny_typeOf_ref (k _ _ ho) (hz.1.symm ▸ q)
  refine wpAny_handleBy_cons (codeAny_handlers_test (L.read hc ((PySem.W.exm_one L.inv.kIn look hb).here ?_))) fun z => by cases z
  cases b with
  | false => exact no rfl
  | true =>
    refine codeAny_handlers_suite_as (HandSPX.lands_againZ L.fl fun h f u => ?_)
    have M := L.up f u
    obtain ⟨oe2, ho2, hz2, hv2, S2⟩ := M.suite
    refine store_ok (X := X.suite a _) (v := .ref a) S2 hN hi (.inl hl) rfl (fun t3 S3 => ?_) (.inr hl)
    refine wpAny_mono ((yes rfl oe2 _ hz2 hv2).run [] t3 _ H _ S3 (wish rfl)) (fun f t4 k => ?_) fun _ _ z => z.elim
    have gone : ∀ {σ4 : L2.St} {H4 : Hp} {Q : Shared → Prop}, Inv (X.suite a ((a, oe2) :: (X.pn ++ pins))) [] σ4 H4 t4 → (∀ t5, Inv X pins (σ4.set i none) H4 t5 → Q t5) →
        wpAny (model X.prog X.w) X.A (do bindName X.env n .none; unbindBehindTheSuite X.env n pos) (fun _ t5 => Q t5) X.xe t4 := fun S4 hq => gone_ok (S4.unsuite L.inv.ok) hN hi hl hq
    cases f with
    | ret u =>
      obtain ⟨v, σ4, H4, S4, r4, q4⟩ := k
      exact gone S4 fun t5 J => ⟨v, _, H4, J, r4, q4⟩
    | _ =>
      obtain ⟨σ4, H4, S4, q4⟩ := k
      exact gone S4 fun t5 J => ⟨_, H4, J, q4⟩
/-- the clauses, all with the name n -/
inductive NHds (X : Cx) (n : Str) : List ExceptHandler → List (Value × (Addr → Value → Option Addr → TS)) → Prop
  | nil : NHds X n [] []
  | cons {x : Str} {c : Value} {ts : Addr → Value → Option Addr → TS} {np pos : Pos} {b₀ : Stmt} {sts : List Stmt} {hds : List ExceptHandler} {l : List (Value × (Addr → Value → Option Addr → TS))} (hc : Names X x c)
      (run : ∀ a oe cls d pn, Zc cls d oe → (∃ vs, oe.data = .fields vs) → PSs (X.suite a ((a, oe) :: pn)) (b₀ :: sts) (ts a cls d)) (r : NHds X n hds l) :
      NHds X n (.ExceptHandler (some (.Name x np)) (some n) (b₀ :: sts) pos :: hds) ((c, ts) :: l)
/-- the ends of a suite, the name being gone behind it -/
def goneD (i : Nat) (D : Ends) : Ends := { nx := fun σ' H' => D.nx (σ'.set i none) H', rt := D.rt, bk := fun σ' H' => D.bk (σ'.set i none) H', ct := fun σ' H' => D.ct (σ'.set i none) H' }
/-- what they wish of an exception, one after the other; one of them must match -/
def wNs (K : Kf) (i : Nat) (D : Ends) : List (Value × (Addr → Value → Option Addr → TS)) → Value → Option Addr → L2.St → Hp → Prop
  | [], _, _, _, _ => False
  | (c, ts) :: r, cls, d, σ, H => ∃ b, PySem.W.exmOne K cls c = some b ∧ (b = true → ∀ a, H a = none → ts a cls d (goneD i D) (σ.set i (some (.ref a))) H) ∧ (b = false → wNs K i D r cls d σ H)
theorem Low.clauses (L : Low X pins σ H B a cls d t) {n : Str} {i : Nat} {D : Ends} (hN : X.N.Nodup) (hi : X.N[i]? = some n) (hl : X.env.kindOf n = some .local) {hds : List ExceptHandler} {l : List (Value × (Addr → Value → Option Addr → TS))}
    (k : NHds X n hds l) (w : wNs X.K i D l cls d σ H) : wpAny (model X.prog X.w) X.A (handleBy (.ref a) X.env hds) (SP X pins D) X.xe t := by
  induction k with
  | nil => exact w.elim
  | cons hc run r ih =>
    obtain ⟨b, w1, w2, w3⟩ := w
    exact L.clause hN hi hl hc w1 (fun _ oe pn z v => run a oe cls d pn z v) (fun e => w2 e a L.new) fun e => ih (w3 e)
theorem ps_tryNs {body : List Stmt} {h₀ : ExceptHandler} {hds : List ExceptHandler} {l : List (Value × (Addr → Value → Option Addr → TS))} {pos : Pos} {tb : WX → TS} {n : Str} {i : Nat} (hs : X.stack = X.env :: X.outer) (hf : X.env.frame = some X.env.locals) (hN : X.N.Nodup) (hi : X.N[i]? = some n) (hl : X.env.kindOf n = some .local)
    (hb : ∀ W pn xe, Takes (X.tr pn xe) W → PassesOwn (model X.prog X.w) X.A X.env xe → PSs (X.tr pn xe) body (tb W)) (k : NHds X n (h₀ :: hds) l) :
    PS X (.Try body (h₀ :: hds) [] [] pos) (fun D σ H => tb (wNs X.K i D l) D σ H) := by
  constructor
  intro pins s σ H D I h
  have ok := I.ok
  have frm : X.A.frames = some (X.env :: X.outer) := ok.frames.trans (congrArg some hs)
  have bd := hb (wNs X.K i D l) (X.pn ++ pins) (fun e s1 => wpAny (model X.prog X.w) X.A (noteFrame e X.env) (fun _ s2 => wpAny (model X.prog X.w) X.A (setFlight e none) (fun _ s3 => wpAny (model X.prog X.w) X.A (handleBy e X.env (h₀ :: hds)) (SP X pins D) X.xe s3) X.xe s2) X.xe s1) (fun u s1 down => by
    obtain ⟨a, B, sI, pins1, σ1, H1, cls, d, rfl, J, nb, up, sky, na, os, ag, w⟩ := down
    rw [hs] at sky
    show wpAny (model X.prog X.w) X.A (noteFrame (.ref a) X.env) _ _ _
    exact Sky.land Zc.steady frm hf sky fun h3 fl u3 => Low.clauses (B := B) (t := { s1 with heap := h3 }) ⟨fl, fun h4 f4 u4 => (J.ofTry ok).landed nb f4.1 (up.trans (u3.trans u4)) os ag, na, hf⟩ hN hi hl k w) PassesOwn.looking
  refine wpAny_Try_except (wpAny_mono (bd.run [] s σ H D (I.toTry _) h) (fun f s1 q => ?_) fun _ _ z => z)
  cases f with
  | ret u =>
    obtain ⟨v, σ1, H1, J, r, q⟩ := q
    exact ⟨v, σ1, H1, J.ofTry ok, r, q⟩
  | next =>
    obtain ⟨σ1, H1, J, q⟩ := q
    exact wpAny_execs_nil ⟨σ1, H1, J.ofTry ok, q⟩
  | _ =>
    obtain ⟨σ1, H1, J, q⟩ := q
    exact ⟨σ1, H1, J.ofTry ok, q⟩
end
/-! ### .. as a reading -/
abbrev HdN := (Str → Option Bool) × (Ec → En → RS)
def hselN (L i : Nat) (x : Ec) : List HdN → RS
  | [] => .bad
  | (cat, ms) :: r => match cat x.cls with
    | some true => match ms x (List.replicate L .none) with
      | .nx e' => .nx (e'.set i .none)
      | .rt d e' => .rt d e'
      | _ => .bad
    | some false => hselN L i x r
    | none => .bad
def sTryN (L i : Nat) (mb : En → RS) (hs : List HdN) : En → RS := fun e => match mb e with
  | .exc x => hselN L i x hs
  | r => r
section
variable {X : Cx} {Tb : Tbs} {C : Cn} {G G' G2 Gl : List SM} {pos : Pos}
inductive VHdN (X : Cx) (Tb : Tbs) (L i : Nat) (n : Str) (G2 Gl : List SM) : List ExceptHandler → List Value → List HdN → Prop
  | nil : VHdN X Tb L i n G2 Gl [] [] []
  | cons {x : Str} {c : Value} {cat : Str → Option Bool} {ms : Ec → En → RS} {b₀ : Stmt} {suite : List Stmt} {np pos' : Pos} {hds : List ExceptHandler} {cs : List Value} {l : List HdN} (hc : Names X x c)
      (hcat : ∀ s b, cat s = some b → PySem.W.exmOne X.K (.ref (He.ga X.K s)) c = some b)
      (hsu : ∀ (x : Ec) (a : Addr) (oe : Obj) (pn : List (Addr × Obj)) (C' : Cn), Known cat x → C'.io = none → Zc (.ref (He.ga X.K x.cls)) none oe → (∃ vs, oe.data = .fields vs) → VSs (X.suite a ((a, oe) :: pn)) Tb C' E00 .z ((List.replicate L .dead).set i (.ptr a)) (G2.set i (.ptr a)) Gl (ms x) (b₀ :: suite)) (r : VHdN X Tb L i n G2 Gl hds cs l) :
      VHdN X Tb L i n G2 Gl (.ExceptHandler (some (.Name x np)) (some n) (b₀ :: suite) pos' :: hds) (c :: cs) ((cat, ms) :: l)
def nTs (X : Cx) (Tb : Tbs) (L i : Nat) (G2 Gl : List SM) (h : Value × HdN) : Value × (Addr → Value → Option Addr → TS) :=
  (h.1, fun a cls d D σ H => ∃ (x : Ec) (C' : Cn), C'.io = none ∧ cls = .ref (He.ga X.K x.cls) ∧ d = none ∧ Known h.2.1 x ∧ (σ.length = X.N.length → tS X.K Tb C' E00 .z ((List.replicate L .dead).set i (.ptr a)) (G2.set i (.ptr a)) Gl (h.2.2 x) D σ H))
theorem VHdN.ok {L i : Nat} {n : Str} {hds : List ExceptHandler} {cs : List Value} {l : List HdN} (h : VHdN X Tb L i n G2 Gl hds cs l) : NHds X n hds ((cs.zip l).map (nTs X Tb L i G2 Gl)) := by
  induction h with
  | nil => exact .nil
  | cons hc hcat hsu r ih =>
    refine .cons hc (fun a oe cls d pn hz hd => ⟨fun pins s σ H D I h => ?_⟩) ih
    obtain ⟨y, C', h1, rfl, rfl, h4, h5⟩ := h
    exact (hsu y a oe pn C' h4 h1 hz hd).run pins s σ H D I (h5 I.len)
theorem vs_tryNs (i : Nat) {n : Str} {body : List Stmt} {h₀ : ExceptHandler} {hds : List ExceptHandler} {cs : List Value} {hl : List HdN} {mb : En → RS} {L : Nat}
    (hs : X.stack = X.env :: X.outer) (hf : X.env.frame = some X.env.locals) (hN : X.N.Nodup) (hi : X.N[i]? = some n) (hln : X.env.kindOf n = some .local) (hL : X.N.length = L) (hio : C.io = none)
    (hb : ∀ (W : WX) (pn : List (Addr × Obj)) (xe : Value → Shared → Prop) (E : XK) (C' : Cn), C'.H0 = C.H0 → C'.io = none → Sb C.Z0 C'.Z0 → Takes (X.tr pn xe) W → (∀ cls d σ' H', E cls d H' → W cls d σ' H') → PassesOwn (model X.prog X.w) X.A X.env xe → VSs (X.tr pn xe) Tb C' E .z G G' Gl mb body)
    (hh : VHdN X Tb L i n G2 Gl (h₀ :: hds) cs hl) (hG : G2.set i .dead = G') (hG2 : i < G2.length) : VS X Tb C E00 .z G G' Gl (sTryN L i mb hl) (.Try body (h₀ :: hds) [] [] pos) := by
  have hx := ps_tryNs (X := X) (body := body) (h₀ := h₀) (hds := hds) (pos := pos) (n := n) (i := i) (l := (cs.zip hl).map (nTs X Tb L i G2 Gl))
    (tb := fun W D σ H => ∃ (E : XK) (C' : Cn), C'.H0 = C.H0 ∧ C'.io = none ∧ Sb C.Z0 C'.Z0 ∧ (∀ cls d σ' H', E cls d H' → W cls d σ' H') ∧ tS X.K Tb C' E .z G G' Gl mb D σ H)
    hs hf hN hi hln (fun W pn xe tk po => ⟨fun pins s σ H D I h => ?_⟩) hh.ok
  · refine PS.weak hx fun D σ H _ hq => ?_
    obtain ⟨Z, en, w, hm⟩ := hq
    unfold sTryN at hm
    refine ⟨fun cls d H' => ∀ σ', wNs X.K i D ((cs.zip hl).map (nTs X Tb L i G2 Gl)) cls d σ' H', C.up Z, rfl, hio, w.g.zz, fun cls d σ' H' h => h σ', Z, en, w.up, ?_⟩
    revert hm
    cases hmb : mb en with
    | nx e' => exact fun hm σ' Z' H' s' w' => hm σ' Z' H' s' (w'.down w.g)
    | bk e' => exact fun hm σ' Z' H' s' w' => hm σ' Z' H' s' (w'.down w.g)
    | ct e' => exact fun hm σ' Z' H' s' w' => hm σ' Z' H' s' (w'.down w.g)
    | rt d e' => exact fun hm v Z' H' g io r => hm v Z' H' (w.g.down g) (fun a ha => by rw [hio] at ha; cases ha) r
    | bad => exact fun hm => hm
    | exc y =>
      dsimp only
      intro hm dx Z' H' g hex σ'
      revert hm
      generalize hall : h₀ :: hds = all at hh
      clear hall hx
      induction hh with
      | nil => exact fun hm => hm.elim
      | @cons x c cat ms b₀ suite np pos' hds cs l hc hcat hsu r ih =>
        unfold hselN
        cases hcy : cat y.cls with
        | none => exact fun hm => hm.elim
        | some bb =>
          cases bb with
          | false =>
            dsimp only
            intro hm
            exact ⟨false, hcat _ _ hcy, (fun z => by cases z), fun _ => ih hm⟩
          | true =>
            dsimp only
            intro hm
            refine ⟨true, hcat _ _ hcy, fun _ a na => ⟨y, C.up Z, hio, rfl, hex.2, hcy, fun hlen => ?_⟩, fun z => by cases z⟩
            have hl2 : σ'.length = L := by
              rw [← hL, ← hlen]
              simp
            have hiL : i < L := by
              rw [← hL]
              exact (List.getElem?_eq_some_iff.mp hi).1
            have wd : Wf X.K Tb (C.up Z) (List.replicate L .dead) Z' (List.replicate L .none) σ' H' := wf_dead g hl2
            have w2 : Wf X.K Tb (C.up Z) ((List.replicate L .dead).set i (.ptr a)) Z' ((List.replicate L .none).set i .none) (σ'.set i (some (.ref a))) H' := wd.setM (m0 := .ptr a) (by simpa using hiL) rfl fun z => by cases z
            have e0 : (List.replicate L PyData.none).set i .none = List.replicate L PyData.none := by
              apply List.ext_getElem?
              intro j
              by_cases hj : i = j
              · subst hj
                rw [List.getElem?_set_self (by simpa using hiL), List.getElem?_replicate, if_pos hiL]
              · rw [List.getElem?_set_ne hj]
            rw [e0] at w2
            refine ⟨Z', _, w2, ?_⟩
            dsimp only
            revert hm
            cases ms y (List.replicate L .none) with
            | nx e' =>
              intro hm σ2 Z2 H2 s2 w3
              have w4 := (w3.down w.g).setD (i := i) (by simpa using hG2)
              rw [List.set_set, hG] at w4
              exact hm _ Z2 H2 (g.zz.trans s2) w4
            | bk e' => exact fun hm => hm.elim
            | ct e' => exact fun hm => hm.elim
            | rt d e' => exact fun hm v Z2 H2 g2 io r => hm v Z2 H2 (w.g.down g2) (fun a ha => by rw [hio] at ha; cases ha) r
            | exc z => exact fun hm => hm.elim
            | bad => exact fun hm => hm.elim
  · obtain ⟨E, C', h1, h2, h3, h4, h5⟩ := h
    exact (hb W pn xe E C' h1 h2 h3 tk h4 po).run pins s σ H D I h5
end
/-! ### what is never reached may be read as anything -/
section
variable {X : Cx} {Tb : Tbs} {C : Cn} {E : XK} {f0 fl : Fl} {G G' Gl : List SM}
theorem vq_bad {e : Expr} : VQ X Tb C E G fl (fun _ => .bad) e := ⟨fun pins s σ H Q I h => by
  obtain ⟨Z, en, w, hm⟩ := h
  exact hm.elim⟩
theorem vm_bad {e : Expr} : VM X Tb C G (fun _ => .bad) e := ⟨fun pins s σ H Q I h => by
  obtain ⟨Z, en, w, hm⟩ := h
  exact hm.elim⟩
theorem vs_badS {st : Stmt} : VS X Tb C E f0 G G' Gl sBad st := ⟨fun pins s σ H D I h => by
  obtain ⟨Z, en, w, hm⟩ := h
  exact hm.elim⟩
theorem vss_badS {sts : List Stmt} : VSs X Tb C E f0 G G' Gl sBad sts := ⟨fun pins s σ H D I h => by
  obtain ⟨Z, en, w, hm⟩ := h
  exact hm.elim⟩
end
end VL
namespace VL
open PySem PySem.Spec PyProof.Rows L2
/-! ### targets of any nesting -/
section
variable {X : Cx} {Tb : Tbs} {C : Cn} {G G1 G2 : List SM} {tg : Expr} {es : List Expr} {pos : Pos}
/-- the data of a row go into the environment one after the other -/
def tGs (K : Kf) (Tb : Tbs) (C : Cn) (G G' : List SM) (sl : List Nat) (st : List Dt → En → Option En) : TGs := fun vs σ H Q => ∃ Z en ds en', Wf K Tb C G Z en σ H ∧ RVs K Z ds vs ∧ st ds en = some en' ∧ ∀ σ', OnlyAt sl σ σ' → Wf K Tb C G' Z en' σ' H → Q σ' H
abbrev VGs (X : Cx) (Tb : Tbs) (C : Cn) (G G' : List SM) (sl : List Nat) (st : List Dt → En → Option En) (es : List Expr) : Prop := PGs X es (tGs X.K Tb C G G' sl st)
theorem PGs.weak {t t' : TGs} (h : PGs X es t) (i : ∀ v σ H Q, t' v σ H Q → t v σ H Q) : PGs X es t' :=
  ⟨fun pins s σ H x v Q I r hq => h.run pins s σ H x v Q I r (i _ _ _ _ hq)⟩
def gsNil : List Dt → En → Option En
  | [], e => some e
  | _ :: _, _ => none
def gsCons (st : Dt → En → Option En) (sts : List Dt → En → Option En) : List Dt → En → Option En
  | d :: ds, e => (st d e).bind (sts ds)
  | [], _ => none
def gTp (sts : List Dt → En → Option En) : Dt → En → Option En
  | .tuple ds, e => sts ds e
  | _, _ => none
theorem OnlyAt.refl {σ : L2.St} : OnlyAt [] σ σ := ⟨rfl, fun _ _ => rfl⟩
theorem vgs_nil : VGs X Tb C G G [] gsNil [] := PGs.weak pgs_nil fun vs σ H Q hq => by
  obtain ⟨Z, en, ds, en', w, r, h1, h2⟩ := hq
  cases ds with
  | nil =>
    cases r
    cases h1
    exact ⟨rfl, h2 _ .refl w⟩
  | cons d ds => cases h1
theorem vgs_cons {sl sm : List Nat} {st : Dt → En → Option En} {sts : List Dt → En → Option En} (h : VG X Tb C G G1 sl st tg) (k : VGs X Tb C G1 G2 sm sts es) (hs : (assignEach (tg :: es) X.env).map (·.2) = assign tg X.env :: (assignEach es X.env).map (·.2) := by rfl) :
    VGs X Tb C G G2 (sl ++ sm) (gsCons st sts) (tg :: es) := PGs.weak (pgs_cons h k hs) fun vs σ H Q hq => by
  obtain ⟨Z, en, ds, en', w, r, h1, h2⟩ := hq
  cases ds with
  | nil => cases h1
  | cons d ds =>
    obtain ⟨y, ys, rfl, r1, r2⟩ := r
    have h1 : (st d en).bind (sts ds) = some en' := h1
    cases he : st d en with
    | none => rw [he] at h1; cases h1
    | some e1 =>
      rw [he] at h1
      exact ⟨y, ys, rfl, Z, en, d, e1, w, r1, he, fun σ1 o1 w1 => ⟨Z, e1, ds, en', w1, r2, h1, fun σ2 o2 w2 => h2 σ2 (o1.then o2) w2⟩⟩
theorem vg_tp {sl : List Nat} {sts : List Dt → En → Option En} {k n : Nat} (hc : X.calm = true) (h : VGs X Tb C G G1 sl sts es) (hlen : ∀ ds e e', sts ds e = some e' → ds.length = n) (hn : (assignEach es X.env).length = n := by rfl) (hst : (assignEach es X.env).findIdx? (·.1) = none := by rfl) :
    VG X Tb C G G1 sl (gTp sts) (.Tuple es k pos) := PG.weak (pg_tup hc h hn hst) fun v σ H Q hq => by
  obtain ⟨Z, en, d, en', w, r, h1, h2⟩ := hq
  unfold gTp at h1
  split at h1
  · rename_i ds
    obtain ⟨a, xs, ev, hs, r2⟩ := r
    exact ⟨a, xs, ev, SqT.sb w.g.zh hs, by rw [r2.len]; exact hlen _ _ _ h1, Z, en, ds, en', w, r2, h1, h2⟩
  · cases h1
theorem gl_nil (ds : List Dt) (e e' : En) (h : gsNil ds e = some e') : ds.length = 0 := by
  cases ds with
  | nil => rfl
  | cons d ds => cases h
theorem gl_cons {st : Dt → En → Option En} {sts : List Dt → En → Option En} {n : Nat} (k : ∀ ds e e', sts ds e = some e' → ds.length = n) (ds : List Dt) (e e' : En) (h : gsCons st sts ds e = some e') : ds.length = n + 1 := by
  cases ds with
  | nil => cases h
  | cons d ds =>
    have h : (st d e).bind (sts ds) = some e' := h
    cases he : st d e with
    | none => rw [he] at h; cases h
    | some e1 =>
      rw [he] at h
      rw [List.length_cons, k _ _ _ h]
end
end VL
namespace VL
open PySem PySem.Spec PyProof.Rows L2
/-! ### x.pop(i) -/
section
variable {X : Cx} {K : Kf} {Tb : Tbs} {C : Cn} {G : List SM} {a : Expr}
theorem RVs.erase {S : Hp} : ∀ (n : Nat) {ds : List Dt} {xs : List V}, RVs K S ds xs → RVs K S (ds.eraseIdx n) (xs.eraseIdx n)
  | n, [], xs, r => by cases r; simp [RVs]
  | 0, d :: ds, xs, r => by
    obtain ⟨y, ys, rfl, _, h2⟩ := r
    exact h2
  | n + 1, d :: ds, xs, r => by
    obtain ⟨y, ys, rfl, h1, h2⟩ := r
    exact ⟨y, ys.eraseIdx n, rfl, h1, RVs.erase n h2⟩
def popAt : Dt → List Dt → Option (Dt × List Dt)
  | .list ds, [.int j] => if 0 ≤ j ∧ j.toNat < ds.length ∧ j < 2 ^ 62 then some (ds.getD j.toNat .none, ds.eraseIdx j.toNat) else none
  | _, _ => none
def popK (i : Nat) (ks : List Dt) : En → R (Dt × En) := fun e => match popAt (e.getD i .none) ks with
  | some p => .ok (p.1, e.set i (.list p.2))
  | none => .bad
def mPopAt (i : Nat) (ml : En → R (List Dt × En)) : En → R (Dt × En) := fun e => if isL (e.getD i .none) = true then mB ml (popK i) e else .bad
theorem vm_popAt (i : Nat) {x : Str} {n : Nat} {ml : En → R (List Dt × En)} {p apos cpos : Pos} (ha : VMLn X Tb C G n ml [a]) (hi : (G[i]? = some .own ∨ G[i]? = some .io) := by first | exact Or.inl rfl | exact Or.inr rfl) (io1 : ioOk G = true := by rfl) (hN : X.N[i]? = some x := by rfl) (hv : Vis X.env.scope x := by first | exact Or.inl rfl | exact Or.inr (Or.inl rfl) | exact Or.inr (Or.inr rfl)) (hd : (x == ("__debug__" : Str)) = false := by decide)
    (hcd : (x == ("__classdict__" : Str)) = false := by decide)
    (hbase : attributeBase (.Name x p) "pop" X.env (eval (.Name x p) X.env) = eval (.Name x p) X.env := by rfl) (hline : (apos.endLine == cpos.line) = true := by rfl)
    (hfew : ((backTo cpos (starEach [a] X.env)).all (fun x => !x.1) && (backToKw cpos (keywordEach [] X.env)).all (fun x => x.1.isSome) && decide ([a].length + ([] : List Keyword).length + (if ([] : List Keyword).isEmpty then 0 else 1) < 30)) = true := by rfl)
    (hs : starEach [a] X.env = (false, eval a X.env) :: starEach [] X.env := by rfl) (hpl : (backTo cpos (starEach [] X.env)).any (·.1) = false := by rfl) :
    VM X Tb C G (mPopAt i ml) (.Call (.Attribute (.Name x p) "pop" apos) [a] [] cpos) :=
  PE.weak (pe_bm F.plainAttrs_list F.slot_list_pop md_pop mt_popAt (pe_var hN hv hd hcd) ha.va hbase hfew hline hs hpl) fun σ H Q _ hq => by
    obtain ⟨Z, en, w, hm⟩ := hq
    unfold mPopAt at hm
    by_cases hl : isL (en.getD i .none) = true
    rotate_left
    · rw [if_neg hl] at hm
      exact hm.elim
    rw [if_pos hl] at hm
    have k := tG_bind (Rl := rDs X.K) (show tM X.K Tb C G (mB ml (popK i)) σ H Q from ⟨Z, en, w, hm⟩)
    obtain ⟨aa, hs, ow, za⟩ := w.at hi
    have ty : tyV X.K "list" (.ref aa) H := by
      revert ow hl
      cases hd0 : en.getD i .none with
      | list ds =>
        intro _ ow
        obtain ⟨xs, q1, q2⟩ := ow
        exact .inl ⟨rfl, xs, .inl (.inl q1)⟩
      | _ => exact fun hl => by cases hl
    refine ⟨.ref aa, hs, ty, tG_mono k fun vs H1 ⟨ks, Z1, e1, r1, w1, hm1⟩ => ?_⟩
    obtain ⟨a1, hs1, ow1, za1⟩ := w1.at hi
    rw [hs] at hs1
    cases hs1
    unfold popK at hm1
    revert hm1
    cases hp : popAt (e1.getD i .none) ks with
    | none => exact fun hm => hm.elim
    | some pr =>
      dsimp only
      intro hm1
      unfold popAt at hp
      split at hp
      · rename_i ds j hds
        split at hp
        · rename_i hj
          cases hp
          rw [hds] at ow1
          obtain ⟨xs, q1, q2⟩ := ow1
          obtain ⟨y, ys, rfl, r2, r3⟩ := r1
          cases r3
          have r2 : y = .int j := r2
          obtain ⟨yv, ey, ry⟩ := q2.get (i := j.toNat) (List.getElem?_eq_getElem hj.2.1)
          have ix : seqIndex? j xs.length = some j.toNat := by
            rw [q2.len]
            exact seqIndex_of hj.1 (by omega)
          obtain ⟨w2, z2⟩ := mut_lst w1 io1 hi hs q1 (RVs.erase j.toNat q2) za1
          refine ⟨aa, xs, j, j.toNat, yv, rfl, by rw [r2], q1, by omega, by omega, ix, ey, ?_⟩
          have ed : ds.getD j.toNat .none = ds[j.toNat]'hj.2.1 := by rw [List.getD_eq_getElem?_getD, List.getElem?_eq_getElem hj.2.1]; rfl
          exact hm1 yv _ _ ⟨z2, Sb.refl _, exS_lst hi hs q1⟩ w2 (by rw [ed]; exact RV.sb z2 _ _ ry)
        · cases hp
      · cases hp
end
end VL
namespace VL
open PySem PySem.Spec PyProof.Rows L2
/-! ### [elt for tg in iter if .. for tg1 in iter1 if ..] -/
def fmL (f : Dt → R (List Dt)) : List Dt → R (List Dt)
  | [] => .ok []
  | d :: ds => match f d with
    | .ok xs => match fmL f ds with
      | .ok ys => .ok (xs ++ ys)
      | _ => .bad
    | _ => .bad
def in2 (st : Dt → En → Option En) (mt : En → R Bool) (mi1 : En → R (List Dt)) (vs1 : List Nat) (st1 : Dt → En → Option En) (mt1 : En → R Bool) (me : En → R Dt) (e : En) (d : Dt) : R (List Dt) := match st d e with
  | none => .bad
  | some e1 => match mt e1 with
    | .ok true => match mi1 e1 with
      | .ok ds1 => fmR (lcItem st1 mt1 me (wipeE e1 vs1)) ds1
      | _ => .bad
    | .ok false => .ok []
    | _ => .bad
def qLC2 (mi : En → R (List Dt)) (vs : List Nat) (st : Dt → En → Option En) (mt : En → R Bool) (mi1 : En → R (List Dt)) (vs1 : List Nat) (st1 : Dt → En → Option En) (mt1 : En → R Bool) (me : En → R Dt) : En → R Dt := fun e => (mi e).bind fun ds => match fmL (in2 st mt mi1 vs1 st1 mt1 me (wipeE e vs)) ds with
  | .ok xs => if xs.length ≤ sizeLine then .ok (.list xs) else .bad
  | _ => .bad
def okL : R (List Dt) → List Dt
  | .ok xs => xs
  | _ => []
def okO : R (Option Dt) → Option Dt
  | .ok o => o
  | _ => none
theorem fmL_ok {f : Dt → R (List Dt)} : ∀ {ds xs : List Dt}, fmL f ds = .ok xs → xs = ds.flatMap (fun d => okL (f d)) ∧ ∀ d ∈ ds, ∃ ys, f d = .ok ys
  | [], xs, h => by cases h; exact ⟨rfl, fun d hd => by cases hd⟩
  | d :: ds, xs, h => by
    unfold fmL at h
    cases hf : f d with
    | ok ys =>
      rw [hf] at h
      dsimp only at h
      cases hr : fmL f ds with
      | ok zs =>
        rw [hr] at h
        have h : (R.ok (ys ++ zs) : R (List Dt)) = .ok xs := h
        have h := R.ok.inj h
        obtain ⟨e, k⟩ := fmL_ok hr
        refine ⟨?_, fun z hz => ?_⟩
        · rw [List.flatMap_cons, hf, ← e, ← h]
          rfl
        · rcases List.mem_cons.mp hz with rfl | hz
          · exact ⟨_, hf⟩
          · exact k z hz
      | exc x => rw [hr] at h; cases h
      | bad => rw [hr] at h; cases h
    | exc x => rw [hf] at h; cases h
    | bad => rw [hf] at h; cases h
theorem fmR_ok {f : Dt → R (Option Dt)} : ∀ {ds xs : List Dt}, fmR f ds = .ok xs → xs = ds.filterMap (fun d => okO (f d)) ∧ ∀ d ∈ ds, ∃ o, f d = .ok o
  | [], xs, h => by cases h; exact ⟨rfl, fun d hd => by cases hd⟩
  | d :: ds, xs, h => by
    unfold fmR at h
    cases hf : f d with
    | exc x => rw [hf] at h; cases h
    | bad => rw [hf] at h; cases h
    | ok o =>
      rw [hf] at h
      have key : ∀ zs, fmR f ds = .ok zs → ∀ z ∈ d :: ds, ∃ o, f z = .ok o := fun zs hz z hm => by
        rcases List.mem_cons.mp hm with rfl | hm
        · exact ⟨_, hf⟩
        · exact (fmR_ok hz).2 z hm
      cases o with
      | none =>
        dsimp only at h
        refine ⟨?_, key xs h⟩
        rw [List.filterMap_cons, hf]
        exact (fmR_ok h).1
      | some y =>
        dsimp only at h
        cases hr : fmR f ds with
        | exc x => rw [hr] at h; cases h
        | bad => rw [hr] at h; cases h
        | ok zs =>
          rw [hr] at h
          have h : (R.ok (y :: zs) : R (List Dt)) = .ok xs := h
          have h := R.ok.inj h
          refine ⟨?_, key zs hr⟩
          rw [List.filterMap_cons, hf, ← (fmR_ok hr).1, ← h]
          rfl
/-- ground of the old heap, or new since, and not the list that is being made -/
def Gr (Z H : Hp) (D : Addr) (Zx Hx : Hp) : Prop := ∀ b o, Zx b = some o → nt o = true → b ≠ D ∧ Hx b = some o ∧ ((∃ xs, o = .tup xs) ∨ (∃ u, Z b = some u ∧ nt u = true) ∨ H b = none)
section
variable {K : Kf} {Tb : Tbs} {C : Cn} {G : List SM} {Z H H1 Zx Hx Hy : Hp} {D : Addr} {e : En} {σ : L2.St}
theorem Gr.sub (g : Gr Z H D Zx Hx) : Sb Zx (rm (nw Z H Hx) D) := fun b o e n => by
  obtain ⟨h1, h2, h3⟩ := g b o e n
  rw [rm_ne h1]
  exact nw_mk h2 n h3
theorem Gr.at (g : Gr Z H D Zx Hx) : Sb Zx Hx := fun b o e n => (g b o e n).2.1
theorem Gr.one : Gr Z H D (rm (nw Z H Hx) D) Hx := fun b o e n => by
  have hb : b ≠ D := fun z => by rw [z, rm_same] at e; cases e
  rw [rm_ne hb] at e
  obtain ⟨h1, _, h3⟩ := nw_of e
  exact ⟨hb, h1, h3⟩
theorem Gr.first (n : H1 D = none) : Gr Z H D (nw Z H H1) H1 := fun b o e _ => by
  obtain ⟨h1, _, h3⟩ := nw_of e
  exact ⟨fun z => (by rw [z, n] at h1; cases h1), h1, h3⟩
theorem Gr.ext (g : Gr Z H D Zx Hx) (x : Ex Hx Hy) (x0 : Ex H Hx) {l : List V} (hD : Hx D = some (.lst l)) : Gr Z H D (nw Zx Hx Hy) Hy := fun b o e n => by
  obtain ⟨h1, _, h3⟩ := nw_of e
  rcases h3 with ⟨xs, rfl⟩ | ⟨u, h4, h5⟩ | h4
  · refine ⟨fun z => ?_, h1, .inl ⟨xs, rfl⟩⟩
    rw [z, x.ke D _ hD rfl] at h1
    cases h1
  · obtain ⟨k1, k2, k3⟩ := g b u h4 h5
    have : u = o := by
      have q := x.ke b u k2 h5
      rw [h1] at q
      exact (Option.some.inj q).symm
    exact ⟨k1, h1, this ▸ k3⟩
  · exact ⟨fun z => (by rw [z, hD] at h4; cases h4), h1, .inr (.inr (x0.none h4))⟩
theorem Gr.extD (g : Gr Z H D Zx Hx) (x : ExA D Hx Hy) : Gr Z H D Zx Hy := fun b o e n => by
  obtain ⟨h1, h2, h3⟩ := g b o e n
  exact ⟨h1, x.ke b o h1 h2 n, h3⟩
/-- an environment with nothing of its own, the list D being changed -/
theorem Wf.extD (w : Wf K Tb C G Zx e σ Hx) (g : Gr Z H D Zx Hx) (x : ExA D Hx Hy) (tb : LamX.Tabs Tb Hy) (h0 : C.H0 D = none) (no : SM.own ∉ G) : Wf K Tb C G Zx e σ Hy := by
  refine ⟨⟨(g.extD x).at, w.g.zz, w.g.fr, fun b o e1 n i1 => ?_, fun b ps e1 => ?_, fun b hb => ?_, tb⟩, fun i m hm => ?_, w.ap, w.le, w.ls⟩
  · have hb : b ≠ D := fun z => by rw [z, h0] at e1; cases e1
    exact x.ke b o hb (w.g.ke b o e1 n i1) n
  · obtain ⟨ps1, e2⟩ := w.g.kt b ps e1
    exact x.tb b ps1 e2
  · obtain ⟨h1, h2, o, h3, h4, h5⟩ := w.g.ih b hb
    have hb : b ≠ D := fun z => by rw [z] at h1; exact h1 h0
    exact ⟨h1, h2, o, x.ke b o hb h3 h5, h4, h5⟩
  · obtain ⟨ov, h1, h2⟩ := w.sl i m hm
    refine ⟨ov, h1, ?_⟩
    cases m with
    | dead => exact trivial
    | z => exact h2
    | own => exact (no (List.mem_of_getElem? hm)).elim
    | ptr b => exact h2
    | io =>
      obtain ⟨b, e1, r, h3⟩ := h2
      have hb : b ≠ D := fun z => by
        obtain ⟨k1, _⟩ := w.g.ih b h3
        rw [z] at k1
        exact k1 h0
      exact ⟨b, e1, r.mono (Sb.refl _) (fun o q n => x.ke b o hb q n), h3⟩
/-- the list so far -/
structure Acc (K : Kf) (Tb : Tbs) (Z H H1 : Hp) (D : Addr) (Hx : Hp) (outs : List Dt) : Prop where
  ex : Ex H1 Hx
  tb : LamX.Tabs Tb Hx
  lst : ∃ acc, Hx D = some (.lst acc) ∧ RVs K (rm (nw Z H Hx) D) outs acc
variable {outs : List Dt}
theorem Acc.step (A : Acc K Tb Z H H1 D Hx outs) (x : Ex Hx Hy) (t : LamX.Tabs Tb Hy) : Acc K Tb Z H H1 D Hy outs := by
  obtain ⟨acc, h1, h2⟩ := A.lst
  exact ⟨A.ex.trans x, t, acc, x.ke _ _ h1 rfl, RVs.sb (rm_mono (nw_ext x)) _ _ h2⟩
theorem Acc.add (A : Acc K Tb Z H H1 D Hx outs) (nD : H1 D = none) {acc : List V} (h : Hx D = some (.lst acc)) {d : Dt} {y : V} (r : RV K (rm (nw Z H Hx) D) d y) : Acc K Tb Z H H1 D (upd Hx D (.lst (acc ++ [y]))) (outs ++ [d]) := by
  obtain ⟨acc', h1, h2⟩ := A.lst
  rw [h] at h1
  cases h1
  have sd : ∀ b, H1 b ≠ none → b ≠ D := fun b hb z => hb (z ▸ nD)
  have same : ∀ b, b ≠ D → (upd Hx D (.lst (acc ++ [y]))) b = Hx b := fun b hb => upd_ne hb
  have zz : Sb (rm (nw Z H Hx) D) (rm (nw Z H (upd Hx D (.lst (acc ++ [y])))) D) := fun b o e1 e2 => by
    have hb : b ≠ D := fun z => by rw [z, rm_same] at e1; cases e1
    rw [rm_ne hb] at e1 ⊢
    obtain ⟨f1, f2, f3⟩ := nw_of e1
    exact nw_mk ((same b hb).trans f1) f2 f3
  refine ⟨⟨fun b o e1 e2 => ?_, fun b ps e1 => ?_⟩, tabs_upd A.tb h, acc ++ [y], upd_same, RVs.app (RVs.sb zz _ _ h2) (RVs.one (RV.sb zz _ _ r))⟩
  · rw [same b (sd b (by rw [e1]; simp))]
    exact A.ex.ke b o e1 e2
  · rw [same b (sd b (by rw [e1]; simp))]
    exact A.ex.tb b ps e1
end
section
variable {X : Cx} {K : Kf} {Tb : Tbs} {C : Cn} {E : XK} {f0 : Fl} {G Gb Gb1 Gl : List SM} {tg iter tg1 iter1 elt : Expr} {me : En → R Dt} {pos : Pos}
theorem lc2_w {fe : Fl} {vs sl vs1 sl1 : List Nat} {mi mi1 : En → R (List Dt)} {st st1 : Dt → En → Option En} {mt mt1 : En → R Bool} {σ : L2.St} {H : Hp} {Q : VK} (hfe : fe.t? = false) (hv : ∀ i ∈ vs, i < G.length) (hsl : ∀ i ∈ sl, i ∈ vs) (hv1 : ∀ i ∈ vs1, i < Gb.length) (hsl1 : ∀ i ∈ sl1, i ∈ vs1) (no : SM.own ∉ Gb)
    (hq : tQ K Tb C E G .own (qLC2 mi vs st mt mi1 vs1 st1 mt1 me) σ H Q) :
    tLc2 (tI K Tb C E G mi) (tG K Tb C (wipeG G vs) Gb sl st) (tB K Tb C E00 Gb mt) (tI K Tb C E00 Gb mi1) (tG K Tb C (wipeG Gb vs1) Gb1 sl1 st1) (tB K Tb C E00 Gb1 mt1) (tQ K Tb C E00 Gb1 fe me) vs vs1 σ H Q := by
  obtain ⟨Z, en, w, hm⟩ := hq
  refine ⟨Z, en, w, ?_⟩
  unfold qLC2 at hm
  revert hm
  cases mi en with
  | exc x => exact fun hm => hm
  | bad => exact fun hm => hm
  | ok ds =>
    dsimp only [R.bind]
    cases hf : fmL (in2 st mt mi1 vs1 st1 mt1 me (wipeE en vs)) ds with
    | exc x => exact fun hm => hm.elim
    | bad => exact fun hm => hm.elim
    | ok xs =>
      dsimp only
      by_cases hsz : xs.length ≤ sizeLine
      rotate_left
      · rw [if_neg hsz]
        exact fun hm => hm.elim
      rw [if_pos hsz]
      intro hm J H1 x1 t1 iok D nD
      have hD0 : H D = none := x1.none nD
      have h00 : C.H0 D = none := w.g.h0 hD0
      obtain ⟨exs, hall⟩ := fmL_ok hf
      refine ⟨fun i k H' => k = ds.length - i ∧ i ≤ ds.length ∧ Acc K Tb Z H H1 D H' ((ds.take i).flatMap fun d => okL (in2 st mt mi1 vs1 st1 mt1 me (wipeE en vs) d)), ⟨ds.length, rfl, Nat.zero_le _, ?_⟩, ?_⟩
      · have sm : Same H1 (upd H1 D (.lst [])) := fun b z e => by rw [upd_ne (ne_of_none e nD)]; exact e
        exact ⟨Ex.of_same sm, t1.ext sm, [], upd_same, rfl⟩
      · rintro i k H2 ⟨rfl, hi2, A2⟩
        have g2 : Gr Z H D (nw Z H H1) H2 := (Gr.first nD).extD (ExA.of A2.ex)
        by_cases hlt : i < ds.length
        · right
          obtain ⟨hgo, hy⟩ := iok.go i H2 g2.at hlt
          refine ⟨hgo, fun H' => i + 1 ≤ ds.length ∧ Acc K Tb Z H H1 D H' ((ds.take (i + 1)).flatMap fun d => okL (in2 st mt mi1 vs1 st1 mt1 me (wipeE en vs) d)), ?_, ?_⟩
          · rintro H' ⟨h1, h2⟩
            exact ⟨ds.length - (i + 1), by omega, rfl, h1, h2⟩
          · intro x H3 hyld
            obtain ⟨sm, d, hd2, rv⟩ := hy x H3 hyld
            have x3 := Ex.of_same sm
            have A3 := A2.step x3 (A2.tb.ext sm)
            obtain ⟨acc2, hacc2, _⟩ := A2.lst
            obtain ⟨acc3, hacc3, _⟩ := A3.lst
            have xH2 : Ex H H2 := x1.trans A2.ex
            have xH3 : Ex H H3 := xH2.trans x3
            have w3 := (w.extO xH3 A3.tb hD0).wipe vs hv
            have z3 := (g2.ext x3 xH2 hacc2).sub
            have ed : ds[i]'hlt = d := by
              rw [List.getElem?_eq_getElem hlt] at hd2
              exact Option.some.inj hd2
            have etk : (ds.take (i + 1)).flatMap (fun d => okL (in2 st mt mi1 vs1 st1 mt1 me (wipeE en vs) d)) = (ds.take i).flatMap (fun d => okL (in2 st mt mi1 vs1 st1 mt1 me (wipeE en vs) d)) ++ okL (in2 st mt mi1 vs1 st1 mt1 me (wipeE en vs) d) := by
              rw [List.take_succ, List.getElem?_eq_getElem hlt, ed, List.flatMap_append]
              congr 1
              simp
            obtain ⟨ys, hys⟩ := hall d (ed ▸ List.getElem_mem hlt)
            have hin := hys
            unfold in2 at hin
            cases hst : st d (wipeE en vs) with
            | none => rw [hst] at hin; cases hin
            | some e1 =>
              rw [hst] at hin
              refine ⟨_, _, d, e1, w3, RV.sb z3 _ _ rv, hst, fun σ2 hO w4 => ⟨wipe_same hO hsl, _, e1, w4, ?_⟩⟩
              revert hin
              dsimp only
              cases mt e1 with
              | exc x => exact fun h => by cases h
              | bad => exact fun h => by cases h
              | ok b =>
                cases b with
                | false =>
                  intro hin H4 x4 t4
                  simp only [Bool.false_eq_true, if_false]
                  have ey : ys = [] := (R.ok.inj hin).symm
                  refine ⟨hlt, ?_⟩
                  rw [etk, hys, ey]
                  show Acc K Tb Z H H1 D H4 (_ ++ [])
                  rw [List.append_nil]
                  exact A3.step x4 t4
                | true =>
                  dsimp only
                  intro hin H4 x4 t4
                  simp only [if_true]
                  refine ⟨_, e1, w4.ext x4 t4, ?_⟩
                  revert hin
                  cases mi1 e1 with
                  | exc x => exact fun h => by cases h
                  | bad => exact fun h => by cases h
                  | ok ds1 =>
                    dsimp only
                    intro hin J1 H5 x5 t5 iok1
                    have A4 := A3.step x4 t4
                    have A5 := A4.step x5 t5
                    obtain ⟨acc4, hacc4, _⟩ := A4.lst
                    have xH4 : Ex H H4 := xH3.trans x4
                    have g4 : Gr Z H D (nw (rm (nw Z H H3) D) H3 H4) H4 := Gr.one.ext x4 xH3 hacc3
                    have g5 : Gr Z H D (nw (nw (rm (nw Z H H3) D) H3 H4) H4 H5) H5 := g4.ext x5 xH4 hacc4
                    have w5 := (w4.ext x4 t4).ext x5 t5
                    obtain ⟨ey, hall1⟩ := fmR_ok hin
                    have eo : okL (in2 st mt mi1 vs1 st1 mt1 me (wipeE en vs) d) = ds1.filterMap fun d => okO (lcItem st1 mt1 me (wipeE e1 vs1) d) := by
                      rw [hys]
                      exact ey
                    rw [eo] at etk
                    refine ⟨fun j k H' => k = ds1.length - j ∧ j ≤ ds1.length ∧ ExA D H5 H' ∧ Acc K Tb Z H H1 D H' ((ds.take i).flatMap (fun d => okL (in2 st mt mi1 vs1 st1 mt1 me (wipeE en vs) d)) ++ (ds1.take j).filterMap fun d => okO (lcItem st1 mt1 me (wipeE e1 vs1) d)), ⟨ds1.length, rfl, Nat.zero_le _, ExA.of (Ex.refl _), ?_⟩, ?_⟩
                    · show Acc K Tb Z H H1 D H5 (_ ++ [])
                      rw [List.append_nil]
                      exact A5
                    · rintro j k H6 ⟨rfl, hj, xa, A6⟩
                      have g6 := g5.extD xa
                      by_cases hlt1 : j < ds1.length
                      · right
                        obtain ⟨hgo1, hy1⟩ := iok1.go j H6 g6.at hlt1
                        refine ⟨hgo1, fun H' => j + 1 ≤ ds1.length ∧ ExA D H5 H' ∧ Acc K Tb Z H H1 D H' ((ds.take i).flatMap (fun d => okL (in2 st mt mi1 vs1 st1 mt1 me (wipeE en vs) d)) ++ (ds1.take (j + 1)).filterMap fun d => okO (lcItem st1 mt1 me (wipeE e1 vs1) d)), ?_, ?_⟩
                        · rintro H' ⟨h1, h2, h3⟩
                          exact ⟨ds1.length - (j + 1), by omega, rfl, h1, h2, h3⟩
                        · intro x' H7 hyld1
                          obtain ⟨sm7, d1, hd1, rv1⟩ := hy1 x' H7 hyld1
                          have x7 := Ex.of_same sm7
                          have A7 := A6.step x7 (A6.tb.ext sm7)
                          obtain ⟨acc6, hacc6, _⟩ := A6.lst
                          obtain ⟨acc7, hacc7, _⟩ := A7.lst
                          have xH6 : Ex H H6 := x1.trans A6.ex
                          have xH7 : Ex H H7 := xH6.trans x7
                          have g7 := g6.ext x7 xH6 hacc6
                          have w7 := ((w5.extD g5 xa A6.tb h00 no).ext x7 A7.tb).wipe vs1 hv1
                          have ed1 : ds1[j]'hlt1 = d1 := by
                            rw [List.getElem?_eq_getElem hlt1] at hd1
                            exact Option.some.inj hd1
                          obtain ⟨o, ho⟩ := hall1 d1 (ed1 ▸ List.getElem_mem hlt1)
                          have etk1 : (ds1.take (j + 1)).filterMap (fun d => okO (lcItem st1 mt1 me (wipeE e1 vs1) d)) = (ds1.take j).filterMap (fun d => okO (lcItem st1 mt1 me (wipeE e1 vs1) d)) ++ o.toList := by
                            rw [List.take_succ, List.getElem?_eq_getElem hlt1, ed1, List.filterMap_append]
                            congr 1
                            show List.filterMap _ [d1] = _
                            rw [List.filterMap_cons, ho]
                            cases o <;> rfl
                          have hit := ho
                          unfold lcItem at hit
                          cases hst1 : st1 d1 (wipeE e1 vs1) with
                          | none => rw [hst1] at hit; cases hit
                          | some e2 =>
                            rw [hst1] at hit
                            refine ⟨_, _, d1, e2, w7, rv1, hst1, fun σ3 hO3 w8 => ⟨wipe_same hO3 hsl1, _, e2, w8, ?_⟩⟩
                            revert hit
                            dsimp only
                            cases mt1 e2 with
                            | exc x => exact fun h => by cases h
                            | bad => exact fun h => by cases h
                            | ok b1 =>
                              cases b1 with
                              | false =>
                                intro hit H8 x8 t8
                                simp only [Bool.false_eq_true, if_false]
                                have e0 : o = none := (R.ok.inj hit).symm
                                refine ⟨hlt1, (xa.trans (ExA.of x7)).trans (ExA.of x8), ?_⟩
                                rw [etk1, e0]
                                show Acc K Tb Z H H1 D H8 (_ ++ (_ ++ []))
                                rw [List.append_nil]
                                exact A7.step x8 t8
                              | true =>
                                dsimp only
                                intro hit H8 x8 t8
                                simp only [if_true]
                                refine ⟨_, e2, w8.ext x8 t8, ?_⟩
                                revert hit
                                cases me e2 with
                                | exc x => exact fun h => by cases h
                                | bad => exact fun h => by cases h
                                | ok d' =>
                                  intro hit y H9 x9 t9 o9
                                  have e0 : o = some d' := (R.ok.inj hit).symm
                                  have A8 := A7.step x8 t8
                                  have A9 := A8.step x9 t9
                                  obtain ⟨acc8, hacc8, _⟩ := A8.lst
                                  obtain ⟨acc9, hacc9, hrv9⟩ := A9.lst
                                  have xH8 : Ex H H8 := xH7.trans x8
                                  have g9 := ((g7.ext x8 xH7 hacc7).ext x9 xH8 hacc8).sub
                                  have o6 : RV K (nw (nw (nw (nw (nw (rm (nw Z H H3) D) H3 H4) H4 H5) H6 H7) H7 H8) H8 H9) d' y := by
                                    cases fe with
                                    | z => exact o9
                                    | t => cases hfe
                                    | own => exact Out.z o9
                                  refine ⟨acc9, hacc9, ?_, hlt1, ?_, ?_⟩
                                  · rw [hrv9.len]
                                    have hle : ((ds.take i).flatMap (fun d => okL (in2 st mt mi1 vs1 st1 mt1 me (wipeE en vs) d)) ++ (ds1.take (j + 1)).filterMap fun d => okO (lcItem st1 mt1 me (wipeE e1 vs1) d)).length ≤ xs.length := by
                                      have l1 : ((ds1.take (j + 1)).filterMap fun d => okO (lcItem st1 mt1 me (wipeE e1 vs1) d)).length ≤ (ds1.filterMap fun d => okO (lcItem st1 mt1 me (wipeE e1 vs1) d)).length := ((List.take_sublist _ _).filterMap _).length_le
                                      have l2 : ((ds.take (i + 1)).flatMap fun d => okL (in2 st mt mi1 vs1 st1 mt1 me (wipeE en vs) d)).length ≤ xs.length := by
                                        rw [exs]
                                        conv => rhs; rw [← List.take_append_drop (i + 1) ds, List.flatMap_append, List.length_append]
                                        omega
                                      rw [etk, List.length_append] at l2
                                      rw [List.length_append]
                                      omega
                                    rw [etk1, e0, List.length_append, List.length_append] at hle
                                    rw [List.length_append]
                                    have : ((some d').toList : List Dt).length = 1 := rfl
                                    omega
                                  · exact (((xa.trans (ExA.of x7)).trans (ExA.of x8)).trans (ExA.of x9)).trans (exA_upd hacc9 rfl)
                                  · rw [etk1, e0, ← List.append_assoc]
                                    exact A9.add nD hacc9 (RV.sb g9 _ _ o6)
                      · left
                        have hn : j = ds1.length := by omega
                        refine ⟨iok1.stop j H6 g6.at hn, hlt, ?_⟩
                        rw [hn, List.take_length] at A6
                        rw [etk]
                        exact A6
        · left
          have hn : i = ds.length := by omega
          refine ⟨iok.stop i H2 g2.at hn, ?_⟩
          rw [hn, List.take_length, ← exs] at A2
          obtain ⟨acc, hacc, hrv⟩ := A2.lst
          exact hm _ H2 (x1.trans A2.ex) A2.tb ⟨D, rfl, hD0, acc, hacc, hrv⟩
theorem vq_lc2 {fe : Fl} {ifs ifs1 : List Expr} {scope : Scope} {own : List (Str × Nat)} {sl sl1 vs1 : List Nat} {mi mi1 : En → R (List Dt)} {st st1 : Dt → En → Option En} {mt mt1 : En → R Bool} (hc : X.calm = true) (hN : X.N.Nodup) (hi : VI X Tb C E G mi tg iter) (ok : BlkOk X.N X.env.scope scope own)
    (hg : ∀ (s : Shared) (H : Hp) (D : Addr) (cl : List (Str × Addr)) (fp : List Addr), VG (X.blk s H scope (compEnvC scope cl D X.env) fp) Tb C (wipeG G (own.map (·.2))) Gb sl st tg)
    (ht : ∀ (s : Shared) (H : Hp) (D : Addr) (cl : List (Str × Addr)) (fp : List Addr), VTs (X.blk s H scope (compEnvC scope cl D X.env) fp) Tb C E00 Gb mt ifs)
    (hi1 : ∀ (s : Shared) (H : Hp) (D : Addr) (cl : List (Str × Addr)) (fp : List Addr), VI (X.blk s H scope (compEnvC scope cl D X.env) fp) Tb C E00 Gb mi1 tg1 iter1)
    (hg1 : ∀ (s : Shared) (H : Hp) (D : Addr) (cl : List (Str × Addr)) (fp : List Addr), VG (X.blk s H scope (compEnvC scope cl D X.env) fp) Tb C (wipeG Gb vs1) Gb1 sl1 st1 tg1)
    (ht1 : ∀ (s : Shared) (H : Hp) (D : Addr) (cl : List (Str × Addr)) (fp : List Addr), VTs (X.blk s H scope (compEnvC scope cl D X.env) fp) Tb C E00 Gb1 mt1 ifs1)
    (he : ∀ (s : Shared) (H : Hp) (D : Addr) (cl : List (Str × Addr)) (fp : List Addr), VQ (X.blk s H scope (compEnvC scope cl D X.env) fp) Tb C E00 Gb1 fe me elt) (hfe : fe.t? = false)
    (hv : ∀ i ∈ own.map (·.2), i < G.length) (hsl : ∀ i ∈ sl, i ∈ own.map (·.2)) (hv1 : ∀ i ∈ vs1, i < Gb.length) (hsl1 : ∀ i ∈ sl1, i ∈ vs1) (hvo : ∀ i ∈ vs1, i ∈ own.map (·.2)) (no : SM.own ∉ Gb)
    (hs : ∀ x, foldedSetIterable iter X.env x = pure x := by intro _; rfl) (hs1 : ∀ env x, foldedSetIterable iter1 env x = pure x := by intro _ _; rfl) :
    VQ X Tb C E G .own (qLC2 mi (own.map (·.2)) st mt mi1 vs1 st1 mt1 me) (.ListComp elt [⟨tg, iter, ifs, 0⟩, ⟨tg1, iter1, ifs1, 0⟩] scope pos) :=
  PE.weak (pe_lc2 (wi1 := tI X.K Tb C E00 Gb mi1) (g := tG X.K Tb C (wipeG G (own.map (·.2))) Gb sl st) (tt := tB X.K Tb C E00 Gb mt) (g1 := tG X.K Tb C (wipeG Gb vs1) Gb1 sl1 st1) (tt1 := tB X.K Tb C E00 Gb1 mt1) (te := tQ X.K Tb C E00 Gb1 fe me) hc hN hi ok hvo hg ht hi1 hg1 ht1 he hs hs1) fun σ H Q _ hq => lc2_w hfe hv hsl hv1 hsl1 no hq
/-- x = [..], written on one line -/
theorem vs_setLc2 (i : Nat) {fe : Fl} {y : Str} {py spos : Pos} {ifs ifs1 : List Expr} {scope : Scope} {own : List (Str × Nat)} {sl sl1 vs1 : List Nat} {mi mi1 : En → R (List Dt)} {st st1 : Dt → En → Option En} {mt mt1 : En → R Bool} (hc : X.calm = true) (hN : X.N.Nodup) (hi : VI X Tb C E G mi tg iter) (ok : BlkOk X.N X.env.scope scope own)
    (hg : ∀ (s : Shared) (H : Hp) (D : Addr) (cl : List (Str × Addr)) (fp : List Addr), VG (X.blk s H scope (compEnvC scope cl D X.env) fp) Tb C (wipeG G (own.map (·.2))) Gb sl st tg)
    (ht : ∀ (s : Shared) (H : Hp) (D : Addr) (cl : List (Str × Addr)) (fp : List Addr), VTs (X.blk s H scope (compEnvC scope cl D X.env) fp) Tb C E00 Gb mt ifs)
    (hi1 : ∀ (s : Shared) (H : Hp) (D : Addr) (cl : List (Str × Addr)) (fp : List Addr), VI (X.blk s H scope (compEnvC scope cl D X.env) fp) Tb C E00 Gb mi1 tg1 iter1)
    (hg1 : ∀ (s : Shared) (H : Hp) (D : Addr) (cl : List (Str × Addr)) (fp : List Addr), VG (X.blk s H scope (compEnvC scope cl D X.env) fp) Tb C (wipeG Gb vs1) Gb1 sl1 st1 tg1)
    (ht1 : ∀ (s : Shared) (H : Hp) (D : Addr) (cl : List (Str × Addr)) (fp : List Addr), VTs (X.blk s H scope (compEnvC scope cl D X.env) fp) Tb C E00 Gb1 mt1 ifs1)
    (he : ∀ (s : Shared) (H : Hp) (D : Addr) (cl : List (Str × Addr)) (fp : List Addr), VQ (X.blk s H scope (compEnvC scope cl D X.env) fp) Tb C E00 Gb1 fe me elt) (hfe : fe.t? = false)
    (hv : ∀ i ∈ own.map (·.2), i < G.length) (hsl : ∀ i ∈ sl, i ∈ own.map (·.2)) (hv1 : ∀ i ∈ vs1, i < Gb.length) (hsl1 : ∀ i ∈ sl1, i ∈ vs1) (hvo : ∀ i ∈ vs1, i ∈ own.map (·.2)) (no : SM.own ∉ Gb)
    (hsw : swapsWith (.ListComp elt [⟨tg, iter, ifs, 0⟩, ⟨tg1, iter1, ifs1, 0⟩] scope pos) (some (.Name y py)) spos.line X.env = pure true := by rfl)
    (hy : X.N[i]? = some y := by rfl) (hyl : X.env.scope.names.lookup y = some .local := by rfl) (hlt : i < G.length := by first | decide | exact of_decide_eq_true rfl)
    (hs : ∀ x, foldedSetIterable iter X.env x = pure x := by intro _; rfl) (hs1 : ∀ env x, foldedSetIterable iter1 env x = pure x := by intro _ _; rfl) :
    VS X Tb C E f0 G (G.set i .own) Gl (sSet i (qLC2 mi (own.map (·.2)) st mt mi1 vs1 st1 mt1 me)) (.Assign [.Name y py] (.ListComp elt [⟨tg, iter, ifs, 0⟩, ⟨tg1, iter1, ifs1, 0⟩] scope pos) spos) :=
  PS.weak (ps_setLc2 (i := i) (wi1 := tI X.K Tb C E00 Gb mi1) (g := tG X.K Tb C (wipeG G (own.map (·.2))) Gb sl st) (tt := tB X.K Tb C E00 Gb mt) (g1 := tG X.K Tb C (wipeG Gb vs1) Gb1 sl1 st1) (tt1 := tB X.K Tb C E00 Gb1 mt1) (te := tQ X.K Tb C E00 Gb1 fe me) hc hN hy hyl hsw hi ok hvo hg ht hi1 hg1 ht1 he hs hs1) fun D σ H _ hq => by
    refine lc2_w hfe hv hsl hv1 hsl1 no ?_
    obtain ⟨Z, en, w, hm⟩ := hq
    refine ⟨Z, en, w, ?_⟩
    unfold sSet at hm
    revert hm
    cases qLC2 mi (own.map (·.2)) st mt mi1 vs1 st1 mt1 me en with
    | exc x => exact fun hm => EXC.toS w.g hm
    | bad => exact fun hm => hm
    | ok d =>
      intro hm v H' x t o
      obtain ⟨Z', s', w'⟩ := w.setO x t hlt o
      exact hm _ _ _ s' w'
end
end VL
namespace PL
open PySem PySem.Spec L2 VL
/-! ### plain facts: readings of ops -/
theorem eqD_int (i j : Int) : eqD (.int i) (.int j) = some (.bool (decide (i = j))) := by
  show some (PyData.bool (i == j)) = _
  rw [show (i == j) = decide (i = j) from by by_cases h : i = j <;> simp [h]]
theorem atI_nat {α : Type} (xs : List α) (n : Nat) : atI xs (n : Int) = xs[n]? := by
  unfold atI ixN
  by_cases h : n < xs.length
  · simp [h]
  · simp [h]
theorem atI_of {α : Type} {xs : List α} {i : Int} (h : 0 ≤ i) : atI xs i = xs[i.toNat]? := by
  obtain ⟨n, rfl⟩ := Int.eq_ofNat_of_zero_le h
  exact atI_nat xs n
theorem mul_ok {i j : Int} (h : CMul i j) : mulD (.int i) (.int j) = some (.int (i * j)) := if_pos h
theorem mul_l {i j : Int} (h : -(2 ^ 64) < i ∧ i < 2 ^ 64) : mulD (.int i) (.int j) = some (.int (i * j)) := if_pos (.inl h)
theorem mul_r {i j : Int} (h : -(2 ^ 64) < j ∧ j < 2 ^ 64) : mulD (.int i) (.int j) = some (.int (i * j)) := if_pos (.inr h)
theorem mod_ok {i j : Int} (h : 0 < j) : modD (.int i) (.int j) = some (.int (i % j)) := if_pos h
theorem fdv_ok {i j : Int} (h : 0 < j ∧ j < 1073741824) : fdvD (.int i) (.int j) = some (.int (i / j)) := if_pos h
theorem add_int (i j : Int) : addD (.int i) (.int j) = some (.int (i + j)) := rfl
theorem sub_int (i j : Int) : subD (.int i) (.int j) = some (.int (i - j)) := rfl
theorem lt_int (i j : Int) : ltD (.int i) (.int j) = some (.bool (decide (i < j))) := rfl
theorem le_int (i j : Int) : leD (.int i) (.int j) = some (.bool (decide (i ≤ j))) := rfl
theorem gt_int (i j : Int) : gtD (.int i) (.int j) = some (.bool (decide (j < i))) := rfl
theorem ge_int (i j : Int) : geD (.int i) (.int j) = some (.bool (decide (j ≤ i))) := rfl
theorem len_list (ds : List Dt) : lenD [.list ds] = some (.int ds.length) := rfl
theorem len_tup (ds : List Dt) : lenD [.tuple ds] = some (.int ds.length) := rfl
theorem int_int (i : Int) : intD [.int i] = some (.int i) := rfl
/-! ### the hand -/
def hd (cs : List Int) (i x y z : Int) : Dt := .list [.list (cs.map .int), .int i, .int x, .int y, .int z]
def HandOk (h : Dt) : Prop := ∃ (cs : List Int) (i x y z : Int), h = hd cs i x y z ∧ (∀ c ∈ cs, 0 ≤ c) ∧ 0 ≤ i ∧ 0 ≤ x
def b_draw (k0 : Int) : En → RS := (sSeq (sIf (bAnd (qT (q2 eqD (qIxV 0 (qc (.int 2))) (qc (.int 0)))) (qT (q2 ltD (qIxV 0 (qc (.int 1))) (qC lenD (lcons (qIxV 0 (qc (.int 0))) lnil))))) (sSeq (sSet 2 (q2 ixD (qIxV 0 (qc (.int 0))) (qIxV 0 (qc (.int 1)))))
  (sSeq (sSto 0 (mQ (q2 addD (qIxV 0 (qc (.int 1))) (qc (.int 1)))) (qc (.int 1)))
  (sSeq (sSto 0 (mQ (q2 modD (qC intD (lcons (q2 addD (q2 addD (q2 mulD (qIxV 0 (qc (.int 3))) (qc (.int 69621))) (q2 mulD (qv 2) (qc (.int 40692)))) (qc (.int k0))) lnil)) (qc (.int 2147483629)))) (qc (.int 3)))
  (sSeq (sIf (qT (q2 geD (qv 2) (q2 powD (qc (.int 10)) (qc (.int 18))))) (sSeq (sSto 0 (mQ (qv 2)) (qc (.int 2)))
  sNx) sNx)
  (sKill 2 sNx))))) sNx)
  (sSeq (sIf (qT (q2 gtD (qIxV 0 (qc (.int 2))) (qc (.int 0)))) (sSeq (sSet 3 (q2 modD (qC intD (lcons (qIxV 0 (qc (.int 2))) lnil)) (qv 1)))
  (sSeq (sSto 0 (mQ (q2 fdvD (qIxV 0 (qc (.int 2))) (qv 1))) (qc (.int 2)))
  (sSeq (sRet (qv 3))
  sNx))) sNx)
  (sSeq (sSto 0 (mQ (q2 addD (qIxV 0 (qc (.int 4))) (qc (.int 1)))) (qc (.int 4)))
  (sSeq (sSet 4 (q2 modD (qC intD (lcons (q2 mulD (qC intD (lcons (q2 addD (qIxV 0 (qc (.int 3))) (q2 mulD (qc (.int 7919)) (qIxV 0 (qc (.int 4))))) lnil)) (qc (.int 48271))) lnil)) (qc (.int 2147483647))))
  (sSeq (sSet 4 (q2 modD (qC intD (lcons (q2 mulD (qv 4) (q2 addD (q2 fdvD (qv 4) (qc (.int 1009))) (qc (.int 69621)))) lnil)) (qc (.int 2147483647))))
  (sSeq (sSet 4 (q2 modD (qC intD (lcons (q2 mulD (qv 4) (q2 addD (q2 fdvD (qv 4) (qc (.int 2003))) (qc (.int 40014)))) lnil)) (qc (.int 2147483563))))
  (sSeq (sRet (q2 modD (qC intD (lcons (q2 fdvD (qv 4) (qc (.int 16))) lnil)) (qv 1)))
  sNx)))))))
def m_draw (k0 : Int) (d0 : Dt) (ds : List Dt) : R (Dt × Dt) := finM (b_draw k0 (ioE d0 ds 3))
/-- the first part: a cell is taken -/
def b_take (k0 : Int) : En → RS := (sIf (bAnd (qT (q2 eqD (qIxV 0 (qc (.int 2))) (qc (.int 0)))) (qT (q2 ltD (qIxV 0 (qc (.int 1))) (qC lenD (lcons (qIxV 0 (qc (.int 0))) lnil))))) (sSeq (sSet 2 (q2 ixD (qIxV 0 (qc (.int 0))) (qIxV 0 (qc (.int 1)))))
  (sSeq (sSto 0 (mQ (q2 addD (qIxV 0 (qc (.int 1))) (qc (.int 1)))) (qc (.int 1)))
  (sSeq (sSto 0 (mQ (q2 modD (qC intD (lcons (q2 addD (q2 addD (q2 mulD (qIxV 0 (qc (.int 3))) (qc (.int 69621))) (q2 mulD (qv 2) (qc (.int 40692)))) (qc (.int k0))) lnil)) (qc (.int 2147483629)))) (qc (.int 3)))
  (sSeq (sIf (qT (q2 geD (qv 2) (q2 powD (qc (.int 10)) (qc (.int 18))))) (sSeq (sSto 0 (mQ (qv 2)) (qc (.int 2)))
  sNx) sNx)
  (sKill 2 sNx))))) sNx)
def b_rest : En → RS := (sSeq (sIf (qT (q2 gtD (qIxV 0 (qc (.int 2))) (qc (.int 0)))) (sSeq (sSet 3 (q2 modD (qC intD (lcons (qIxV 0 (qc (.int 2))) lnil)) (qv 1)))
  (sSeq (sSto 0 (mQ (q2 fdvD (qIxV 0 (qc (.int 2))) (qv 1))) (qc (.int 2)))
  (sSeq (sRet (qv 3))
  sNx))) sNx)
  (sSeq (sSto 0 (mQ (q2 addD (qIxV 0 (qc (.int 4))) (qc (.int 1)))) (qc (.int 4)))
  (sSeq (sSet 4 (q2 modD (qC intD (lcons (q2 mulD (qC intD (lcons (q2 addD (qIxV 0 (qc (.int 3))) (q2 mulD (qc (.int 7919)) (qIxV 0 (qc (.int 4))))) lnil)) (qc (.int 48271))) lnil)) (qc (.int 2147483647))))
  (sSeq (sSet 4 (q2 modD (qC intD (lcons (q2 mulD (qv 4) (q2 addD (q2 fdvD (qv 4) (qc (.int 1009))) (qc (.int 69621)))) lnil)) (qc (.int 2147483647))))
  (sSeq (sSet 4 (q2 modD (qC intD (lcons (q2 mulD (qv 4) (q2 addD (q2 fdvD (qv 4) (qc (.int 2003))) (qc (.int 40014)))) lnil)) (qc (.int 2147483563))))
  (sSeq (sRet (q2 modD (qC intD (lcons (q2 fdvD (qv 4) (qc (.int 16))) lnil)) (qv 1)))
  sNx))))))
theorem draw_split (k0 : Int) : b_draw k0 = sSeq (b_take k0) b_rest := rfl
theorem ix_h0 (cs : List Int) (i x y z : Int) (r : List Dt) : qIxV 0 (qc (.int 0)) (hd cs i x y z :: r) = .ok (.list (cs.map .int)) := rfl
theorem ix_h1 (cs : List Int) (i x y z : Int) (r : List Dt) : qIxV 0 (qc (.int 1)) (hd cs i x y z :: r) = .ok (.int i) := rfl
theorem ix_h2 (cs : List Int) (i x y z : Int) (r : List Dt) : qIxV 0 (qc (.int 2)) (hd cs i x y z :: r) = .ok (.int x) := rfl
theorem ix_h3 (cs : List Int) (i x y z : Int) (r : List Dt) : qIxV 0 (qc (.int 3)) (hd cs i x y z :: r) = .ok (.int y) := rfl
theorem ix_h4 (cs : List Int) (i x y z : Int) (r : List Dt) : qIxV 0 (qc (.int 4)) (hd cs i x y z :: r) = .ok (.int z) := rfl
theorem sto_h1 (cs : List Int) (i x y z : Int) (r : List Dt) (m : En → R Dt) (v : Int) (h : m (hd cs i x y z :: r) = .ok (.int v)) : sSto 0 (mQ m) (qc (.int 1)) (hd cs i x y z :: r) = .nx (hd cs v x y z :: r) := by
  unfold sSto mQ
  rw [h]
  rfl
theorem sto_h2 (cs : List Int) (i x y z : Int) (r : List Dt) (m : En → R Dt) (v : Int) (h : m (hd cs i x y z :: r) = .ok (.int v)) : sSto 0 (mQ m) (qc (.int 2)) (hd cs i x y z :: r) = .nx (hd cs i v y z :: r) := by
  unfold sSto mQ
  rw [h]
  rfl
theorem sto_h3 (cs : List Int) (i x y z : Int) (r : List Dt) (m : En → R Dt) (v : Int) (h : m (hd cs i x y z :: r) = .ok (.int v)) : sSto 0 (mQ m) (qc (.int 3)) (hd cs i x y z :: r) = .nx (hd cs i x v z :: r) := by
  unfold sSto mQ
  rw [h]
  rfl
theorem sto_h4 (cs : List Int) (i x y z : Int) (r : List Dt) (m : En → R Dt) (v : Int) (h : m (hd cs i x y z :: r) = .ok (.int v)) : sSto 0 (mQ m) (qc (.int 4)) (hd cs i x y z :: r) = .nx (hd cs i x y v :: r) := by
  unfold sSto mQ
  rw [h]
  rfl
theorem seq_nx {m n : En → RS} {e e' : En} (h : m e = .nx e') : sSeq m n e = n e' := by
  unfold sSeq
  rw [h]
  rfl
theorem seq_rt {m n : En → RS} {e e' : En} {d : Dt} (h : m e = .rt d e') : sSeq m n e = .rt d e' := by
  unfold sSeq
  rw [h]
  rfl
theorem if_t {c : En → R Bool} {m n : En → RS} {e : En} (h : c e = .ok true) : sIf c m n e = m e := by
  unfold sIf
  rw [h]
  rfl
theorem if_f {c : En → R Bool} {m n : En → RS} {e : En} (h : c e = .ok false) : sIf c m n e = n e := by
  unfold sIf
  rw [h]
  rfl
theorem set_ok {i : Nat} {m : En → R Dt} {e : En} {d : Dt} (h : m e = .ok d) : sSet i m e = .nx (e.set i d) := by
  unfold sSet
  rw [h]
  rfl
theorem ret_ok {m : En → R Dt} {e : En} {d : Dt} (h : m e = .ok d) : sRet m e = .rt d e := by
  unfold sRet
  rw [h]
  rfl
theorem q2_ok {f : Dt → Dt → Option Dt} {a b : En → R Dt} {e : En} {x y z : Dt} (ha : a e = .ok x) (hb : b e = .ok y) (h : f x y = some z) : q2 f a b e = .ok z := by
  unfold q2
  rw [ha, R.bind, hb, R.bind, h]
  rfl
theorem qC1_ok {f : List Dt → Option Dt} {a : En → R Dt} {e : En} {x z : Dt} (ha : a e = .ok x) (h : f [x] = some z) : qC f (lcons a lnil) e = .ok z := by
  unfold qC lcons lnil
  rw [ha]
  show R.ofO (f [x]) = _
  rw [h]
  rfl
theorem qT_ok {a : En → R Dt} {e : En} {b : Bool} (h : a e = .ok (.bool b)) : qT a e = .ok b := by
  unfold qT
  rw [h]
  rfl
theorem bAnd_t {a b : En → R Bool} {e : En} (h : a e = .ok true) : bAnd a b e = b e := by
  unfold bAnd
  rw [h]
  rfl
theorem bAnd_f {a b : En → R Bool} {e : En} (h : a e = .ok false) : bAnd a b e = .ok false := by
  unfold bAnd
  rw [h]
  rfl
theorem take_ok {k0 : Int} {h : Dt} (ok : HandOk h) (b : Int) : ∃ h', HandOk h' ∧ b_take k0 [h, .int b, .none, .none, .none] = .nx [h', .int b, .none, .none, .none] := by
  obtain ⟨cs, i, x, y, z, rfl, h1, h2, h3⟩ := ok
  by_cases hx : x = 0
  · by_cases hi : i < cs.length
    · subst hx
      have hlt : i.toNat < cs.length := by omega
      obtain ⟨c, hc⟩ : ∃ c, cs[i.toNat]? = some c := ⟨_, List.getElem?_eq_getElem hlt⟩
      have hc0 : 0 ≤ c := h1 c (List.mem_of_getElem? hc)
      have e0 : (bAnd (qT (q2 eqD (qIxV 0 (qc (.int 2))) (qc (.int 0)))) (qT (q2 ltD (qIxV 0 (qc (.int 1))) (qC lenD (lcons (qIxV 0 (qc (.int 0))) lnil))))) [hd cs i 0 y z, .int b, .none, .none, .none] = .ok true := by
        rw [bAnd_t (qT_ok (b := true) (q2_ok (ix_h2 ..) rfl (eqD_int 0 0)))]
        refine qT_ok (q2_ok (ix_h1 ..) (qC1_ok (ix_h0 ..) (len_list _)) ?_)
        rw [lt_int, List.length_map, decide_eq_true hi]
      have e1 : q2 ixD (qIxV 0 (qc (.int 0))) (qIxV 0 (qc (.int 1))) [hd cs i 0 y z, .int b, .none, .none, .none] = .ok (.int c) := by
        refine q2_ok (ix_h0 ..) (ix_h1 ..) ?_
        show atI _ _ = _
        rw [atI_of h2, List.getElem?_map, hc]
        rfl
      have e2 : sSto 0 (mQ (q2 addD (qIxV 0 (qc (.int 1))) (qc (.int 1)))) (qc (.int 1)) [hd cs i 0 y z, .int b, .int c, .none, .none] = .nx [hd cs (i + 1) 0 y z, .int b, .int c, .none, .none] := sto_h1 _ _ _ _ _ _ _ _ rfl
      have e3 : sSto 0 (mQ (q2 modD (qC intD (lcons (q2 addD (q2 addD (q2 mulD (qIxV 0 (qc (.int 3))) (qc (.int 69621))) (q2 mulD (qv 2) (qc (.int 40692)))) (qc (.int k0))) lnil)) (qc (.int 2147483629)))) (qc (.int 3)) [hd cs (i + 1) 0 y z, .int b, .int c, .none, .none] = .nx [hd cs (i + 1) 0 ((y * 69621 + c * 40692 + k0) % 2147483629) z, .int b, .int c, .none, .none] :=
        sto_h3 _ _ _ _ _ _ _ _ (q2_ok (qC1_ok (q2_ok (q2_ok (q2_ok (ix_h3 ..) rfl (mul_r (by decide))) (q2_ok rfl rfl (mul_r (by decide))) rfl) rfl rfl) rfl) rfl (mod_ok (by decide)))
      have e4 : q2 geD (qv 2) (q2 powD (qc (.int 10)) (qc (.int 18))) [hd cs (i + 1) 0 ((y * 69621 + c * 40692 + k0) % 2147483629) z, .int b, .int c, .none, .none] = .ok (.bool (decide (1000000000000000000 ≤ c))) := rfl
      unfold b_take
      rw [if_t e0, seq_nx (set_ok e1)]
      show ∃ h', HandOk h' ∧ (sSeq _ _) [hd cs i 0 y z, .int b, .int c, .none, .none] = _
      rw [seq_nx e2, seq_nx e3]
      by_cases hg : (1000000000000000000 : Int) ≤ c
      · have e5 : sIf (qT (q2 geD (qv 2) (q2 powD (qc (.int 10)) (qc (.int 18))))) (sSeq (sSto 0 (mQ (qv 2)) (qc (.int 2))) sNx) sNx [hd cs (i + 1) 0 ((y * 69621 + c * 40692 + k0) % 2147483629) z, .int b, .int c, .none, .none] = .nx [hd cs (i + 1) c ((y * 69621 + c * 40692 + k0) % 2147483629) z, .int b, .int c, .none, .none] := by
          rw [if_t (qT_ok (b := true) (by rw [e4, decide_eq_true hg])), seq_nx (sto_h2 _ _ _ _ _ _ _ c rfl)]
          rfl
        rw [seq_nx e5]
        exact ⟨_, ⟨cs, i + 1, c, _, z, rfl, h1, by omega, hc0⟩, rfl⟩
      · have e5 : sIf (qT (q2 geD (qv 2) (q2 powD (qc (.int 10)) (qc (.int 18))))) (sSeq (sSto 0 (mQ (qv 2)) (qc (.int 2))) sNx) sNx [hd cs (i + 1) 0 ((y * 69621 + c * 40692 + k0) % 2147483629) z, .int b, .int c, .none, .none] = .nx [hd cs (i + 1) 0 ((y * 69621 + c * 40692 + k0) % 2147483629) z, .int b, .int c, .none, .none] := by
          rw [if_f (qT_ok (b := false) (by rw [e4, decide_eq_false hg]))]
          rfl
        rw [seq_nx e5]
        exact ⟨_, ⟨cs, i + 1, 0, _, z, rfl, h1, by omega, Int.le_refl 0⟩, rfl⟩
    · refine ⟨_, ⟨cs, i, x, y, z, rfl, h1, h2, h3⟩, ?_⟩
      subst hx
      unfold b_take
      rw [if_f]
      · rfl
      · rw [bAnd_t (qT_ok (b := true) (q2_ok (ix_h2 ..) rfl (eqD_int 0 0)))]
        refine qT_ok (q2_ok (ix_h1 ..) (qC1_ok (ix_h0 ..) (len_list _)) ?_)
        rw [lt_int, List.length_map, decide_eq_false hi]
  · refine ⟨_, ⟨cs, i, x, y, z, rfl, h1, h2, h3⟩, ?_⟩
    unfold b_take
    rw [if_f]
    · rfl
    · exact bAnd_f (qT_ok (q2_ok (ix_h2 ..) rfl (by rw [eqD_int, decide_eq_false hx])))
theorem rest_ok {h : Dt} (ok : HandOk h) {b : Int} (h0 : 0 < b) (h30 : b < 1073741824) : ∃ d h' e3 e4, HandOk h' ∧ 0 ≤ d ∧ d < b ∧ b_rest [h, .int b, .none, .none, .none] = .rt (.int d) [h', .int b, .none, e3, e4] := by
  obtain ⟨cs, i, x, y, z, rfl, h1, h2, h3⟩ := ok
  have ec : q2 gtD (qIxV 0 (qc (.int 2))) (qc (.int 0)) [hd cs i x y z, .int b, .none, .none, .none] = .ok (.bool (decide (0 < x))) := q2_ok (ix_h2 ..) rfl rfl
  unfold b_rest
  by_cases hx : 0 < x
  · have e5 : sIf (qT (q2 gtD (qIxV 0 (qc (.int 2))) (qc (.int 0)))) (sSeq (sSet 3 (q2 modD (qC intD (lcons (qIxV 0 (qc (.int 2))) lnil)) (qv 1)))
        (sSeq (sSto 0 (mQ (q2 fdvD (qIxV 0 (qc (.int 2))) (qv 1))) (qc (.int 2))) (sSeq (sRet (qv 3)) sNx))) sNx [hd cs i x y z, .int b, .none, .none, .none] = .rt (.int (x % b)) [hd cs i (x / b) y z, .int b, .none, .int (x % b), .none] := by
      rw [if_t (qT_ok (b := true) (by rw [ec, decide_eq_true hx])), seq_nx (set_ok (q2_ok (qC1_ok (ix_h2 ..) rfl) rfl (mod_ok h0)))]
      show (sSeq _ _) [hd cs i x y z, .int b, .none, .int (x % b), .none] = _
      rw [seq_nx (sto_h2 _ _ _ _ _ _ _ (x / b) (q2_ok (ix_h2 ..) rfl (fdv_ok ⟨h0, h30⟩)))]
      rfl
    rw [seq_rt e5]
    exact ⟨_, _, _, _, ⟨cs, i, x / b, y, z, rfl, h1, h2, Int.ediv_nonneg h3 (Int.le_of_lt h0)⟩, Int.emod_nonneg _ (by omega), Int.emod_lt_of_pos _ h0, rfl⟩
  · have e5 : sIf (qT (q2 gtD (qIxV 0 (qc (.int 2))) (qc (.int 0)))) (sSeq (sSet 3 (q2 modD (qC intD (lcons (qIxV 0 (qc (.int 2))) lnil)) (qv 1)))
        (sSeq (sSto 0 (mQ (q2 fdvD (qIxV 0 (qc (.int 2))) (qv 1))) (qc (.int 2))) (sSeq (sRet (qv 3)) sNx))) sNx [hd cs i x y z, .int b, .none, .none, .none] = .nx [hd cs i x y z, .int b, .none, .none, .none] := by
      rw [if_f (qT_ok (b := false) (by rw [ec, decide_eq_false hx]))]
      rfl
    rw [seq_nx e5, seq_nx (sto_h4 _ _ _ _ _ _ _ (z + 1) (q2_ok (ix_h4 ..) rfl rfl))]
    rw [seq_nx (set_ok (q2_ok (qC1_ok (q2_ok (qC1_ok (q2_ok (ix_h3 ..) (q2_ok rfl (ix_h4 ..) (mul_l (by decide))) rfl) rfl) rfl (mul_r (by decide))) rfl) rfl (mod_ok (by decide))))]
    generalize hn : (y + 7919 * (z + 1)) * 48271 % 2147483647 = n
    have n1 : 0 ≤ n := by rw [← hn]; exact Int.emod_nonneg _ (by decide)
    have n2 : n < 2147483647 := by rw [← hn]; exact Int.emod_lt_of_pos _ (by decide)
    show ∃ d h' e3 e4, _ ∧ _ ∧ _ ∧ (sSeq _ _) [hd cs i x y (z + 1), .int b, .none, .none, .int n] = _
    rw [seq_nx (set_ok (q2_ok (qC1_ok (q2_ok (rfl : qv 4 _ = .ok (.int n)) (q2_ok (q2_ok (rfl : qv 4 _ = .ok (.int n)) rfl (fdv_ok (by decide))) rfl rfl) (mul_l (by omega))) rfl) rfl (mod_ok (by decide))))]
    generalize hm : n * (n / 1009 + 69621) % 2147483647 = m
    have m1 : 0 ≤ m := by rw [← hm]; exact Int.emod_nonneg _ (by decide)
    have m2 : m < 2147483647 := by rw [← hm]; exact Int.emod_lt_of_pos _ (by decide)
    show ∃ d h' e3 e4, _ ∧ _ ∧ _ ∧ (sSeq _ _) [hd cs i x y (z + 1), .int b, .none, .none, .int m] = _
    rw [seq_nx (set_ok (q2_ok (qC1_ok (q2_ok (rfl : qv 4 _ = .ok (.int m)) (q2_ok (q2_ok (rfl : qv 4 _ = .ok (.int m)) rfl (fdv_ok (by decide))) rfl rfl) (mul_l (by omega))) rfl) rfl (mod_ok (by decide))))]
    generalize hl : m * (m / 2003 + 40014) % 2147483563 = l
    show ∃ d h' e3 e4, _ ∧ _ ∧ _ ∧ (sSeq _ _) [hd cs i x y (z + 1), .int b, .none, .none, .int l] = _
    rw [seq_rt (ret_ok (q2_ok (qC1_ok (q2_ok (rfl : qv 4 _ = .ok (.int l)) rfl (fdv_ok (by decide))) rfl) rfl (mod_ok h0)))]
    exact ⟨_, _, _, _, ⟨cs, i, x, y, z + 1, rfl, h1, h2, h3⟩, Int.emod_nonneg _ (by omega), Int.emod_lt_of_pos _ h0, rfl⟩
theorem draw_ok {k0 : Int} {h : Dt} (ok : HandOk h) {b : Int} (h0 : 0 < b) (h30 : b < 1073741824) : ∃ d h', m_draw k0 h [.int b] = .ok (.int d, h') ∧ HandOk h' ∧ 0 ≤ d ∧ d < b := by
  obtain ⟨h1, k1, e1⟩ := take_ok (k0 := k0) ok b
  obtain ⟨d, h2, e3, e4, k2, d0, db, e2⟩ := rest_ok k1 h0 h30
  refine ⟨d, h2, ?_, k2, d0, db⟩
  show finM (b_draw k0 [h, .int b, .none, .none, .none]) = _
  rw [draw_split, seq_nx e1, e2]
  rfl
end PL
namespace PL
open PySem PySem.Spec L2 VL
/-! ### small data: texts -/
mutual
def sm : Dt → Bool
  | .none | .bool _ => true
  | .int i => decide (i.natAbs < 10 ^ 12)
  | .str x => PyData.strOk x
  | .list xs | .tuple xs => smAll xs
  | .dict _ => false
def smAll : List Dt → Bool
  | [] => true
  | x :: xs => sm x && smAll xs
end
mutual
theorem sm_ok : ∀ d : Dt, sm d = true → d.canLay0 = true ∧ d.intsShort 13 = true ∧ d.showable = true
  | .none, _ => ⟨rfl, rfl, rfl⟩
  | .bool _, _ => ⟨rfl, rfl, rfl⟩
  | .int i, h => by
    have h1 : i.natAbs < 10 ^ 12 := by simpa [sm] using h
    refine ⟨rfl, ?_, ?_⟩
    · simp only [PyData.intsShort, decide_eq_true_eq]
      exact PyData.shown_int_le h1
    · simp only [PyData.showable, decide_eq_true_eq]
      refine Nat.lt_of_le_of_lt (m := 40) ?_ (by decide)
      by_cases h0 : i.natAbs = 0
      · rw [h0]; decide
      · exact Nat.le_of_lt_succ ((Nat.log2_lt h0).mpr (Nat.lt_trans h1 (by decide)))
  | .str x, h => ⟨by simpa [sm, PyData.canLay0] using h, rfl, rfl⟩
  | .list xs, h => by
    have h' : smAll xs = true := by simpa [sm] using h
    obtain ⟨a, b, c⟩ := smAll_ok xs h'
    exact ⟨by simpa [PyData.canLay0] using a, by simpa [PyData.intsShort] using b, by simpa [PyData.showable] using c⟩
  | .tuple xs, h => by
    have h' : smAll xs = true := by simpa [sm] using h
    obtain ⟨a, b, c⟩ := smAll_ok xs h'
    exact ⟨by simpa [PyData.canLay0] using a, by simpa [PyData.intsShort] using b, by simpa [PyData.showable] using c⟩
  | .dict _, h => by simp [sm] at h
theorem smAll_ok : ∀ xs : List Dt, smAll xs = true → PyData.canLayAll0 xs = true ∧ PyData.intsShortAll 13 xs = true ∧ PyData.showableAll xs = true
  | [], _ => ⟨rfl, rfl, rfl⟩
  | x :: xs, h => by
    have h' : sm x = true ∧ smAll xs = true := by simpa [smAll] using h
    obtain ⟨a, b, c⟩ := sm_ok x h'.1
    obtain ⟨a', b', c'⟩ := smAll_ok xs h'.2
    exact ⟨by simp [PyData.canLayAll0, a, a'], by simp [PyData.intsShortAll, b, b'], by simp [PyData.showableAll, c, c']⟩
end
theorem shOk_of {d : Dt} (h : sm d = true) (hd : d.depth ≤ 60) (hw : d.weight ≤ 2 ^ 20) : shOk d = true := by
  obtain ⟨a, b, c⟩ := sm_ok d h
  have l : d.layable0 = true := by
    unfold PyData.layable0
    rw [a, decide_eq_true (Nat.le_trans hd (by decide)), decide_eq_true hw]
    rfl
  unfold shOk SeqAt.shaped
  rw [a, c, decide_eq_true hd, decide_eq_true (Nat.le_trans hd (by decide : 60 ≤ 64)), decide_eq_true (PyData.shown_fits_of_layable0 (B := 13) (by decide) (by decide) l b)]
  rfl
theorem repD_ok {d : Dt} (h : shOk d = true) : repD [d] = some (.str d.shown) := if_pos h
theorem w_int {i : Int} (h : i.natAbs < 10 ^ 12) : PyData.weight (.int i) ≤ 41 := by
  simp only [PyData.weight]
  by_cases h0 : i = 0
  · subst h0; decide
  · have h1 : i.natAbs ≠ 0 := by omega
    rw [if_neg (by simpa using h0)]
    exact Nat.succ_le_succ (Nat.le_of_lt_succ ((Nat.log2_lt h1).mpr (Nat.lt_trans h (by decide))))
theorem eqv_refl_str (x : Str) : PyData.eqv (.str x) (.str x) = true := by simp [PyData.eqv]
/-- texts alike are found alike -/
theorem strOk_shown {d : Dt} (h : PyData.strOk d.shown = true) : neD (.str d.shown) (.str d.shown) = some (.bool false) := by
  unfold neD eqOk SeqAt.shaped
  rw [show (PyData.str d.shown).canLay0 = true from h, show PyData.eqv (.str d.shown) (.str d.shown) = true from eqv_refl_str _]
  rfl
theorem seq_if_f {c : En → R Bool} {m n : En → RS} {e : En} (h : c e = .ok false) : sSeq (sIf c m sNx) n e = n e := seq_nx (by rw [if_f h]; rfl)
theorem bNot_ok {a : En → R Bool} {e : En} {b : Bool} (h : a e = .ok b) : bNot a e = .ok (!b) := by
  unfold bNot
  rw [h]
  rfl
theorem lcons_ok {m : En → R Dt} {ml : En → R (List Dt)} {e : En} {d : Dt} {ds : List Dt} (h : m e = .ok d) (hl : ml e = .ok ds) : lcons m ml e = .ok (d :: ds) := by
  unfold lcons
  rw [h, R.bind, hl]
  rfl
theorem qtup_ok {ml : En → R (List Dt)} {e : En} {ds : List Dt} (h : ml e = .ok ds) : qtup ml e = .ok (.tuple ds) := by
  unfold qtup
  rw [h]
  rfl
theorem qlst_ok {ml : En → R (List Dt)} {e : En} {ds : List Dt} (h : ml e = .ok ds) : qlst ml e = .ok (.list ds) := by
  unfold qlst
  rw [h]
  rfl
theorem qF_ok {f : List Dt → R Dt} {ml : En → R (List Dt)} {e : En} {ds : List Dt} {r : R Dt} (h : ml e = .ok ds) (hf : f ds = r) : qF f ml e = r := by
  unfold qF
  rw [h]
  exact hf
theorem qC_ok {f : List Dt → Option Dt} {ml : En → R (List Dt)} {e : En} {ds : List Dt} {d : Dt} (h : ml e = .ok ds) (hf : f ds = some d) : qC f ml e = .ok d := by
  unfold qC
  rw [h]
  show R.ofO (f ds) = _
  rw [hf]
  rfl
theorem q1_ok {f : Dt → Option Dt} {m : En → R Dt} {e : En} {d x : Dt} (h : m e = .ok d) (hf : f d = some x) : q1 f m e = .ok x := by
  unfold q1
  rw [h]
  show R.ofO (f d) = _
  rw [hf]
  rfl
theorem lnil_ok (e : En) : lnil e = .ok [] := rfl
theorem fin_rt {r : RS} {d : Dt} {e : En} (h : r = .rt d e) : fin r = .ok d := by rw [h]; rfl
/-! ### loops -/
theorem forL_inv {st : Dt → En → Option En} {body : En → RS} {I : En → Prop} : ∀ (ds : List Dt) (e : En), (∀ d ∈ ds, ∀ e, I e → ∃ e1 e2, st d e = some e1 ∧ body e1 = .nx e2 ∧ I e2) → I e → ∃ e', forL st body ds e = .nx e' ∧ I e'
  | [], e, _, h => ⟨e, rfl, h⟩
  | d :: ds, e, hs, h => by
    obtain ⟨e1, e2, h1, h2, h3⟩ := hs d (List.mem_cons_self ..) e h
    obtain ⟨e', h4, h5⟩ := forL_inv ds e2 (fun d hd => hs d (List.mem_cons_of_mem _ hd)) h3
    refine ⟨e', ?_, h5⟩
    unfold forL
    rw [h1]
    show (match body e1 with | .nx e2 => forL st body ds e2 | .ct e2 => forL st body ds e2 | .bk e2 => .nx e2 | .rt x e2 => .rt x e2 | .exc x => .exc x | .bad => .bad) = _
    rw [h2]
    exact h4
/-- a loop that leaves at the first hit -/
theorem forL_find {st : Dt → En → Option En} {body : En → RS} {e : En} (f : Dt → Option Dt) : ∀ ds : List Dt, (∀ d ∈ ds, ∃ e1, st d e = some e1 ∧ match f d with | some x => ∃ e2, body e1 = .rt x e2 | none => body e1 = .nx e) →
    match ds.findSome? f with | some x => ∃ e2, forL st body ds e = .rt x e2 | none => forL st body ds e = .nx e
  | [], _ => rfl
  | d :: ds, hs => by
    obtain ⟨e1, h1, h2⟩ := hs d (List.mem_cons_self ..)
    have ih := forL_find f ds fun d hd => hs d (List.mem_cons_of_mem _ hd)
    rw [List.findSome?_cons]
    revert h2
    cases hf : f d with
    | some x =>
      rintro ⟨e2, h2⟩
      refine ⟨e2, ?_⟩
      unfold forL
      rw [h1]
      dsimp only
      rw [h2]
    | none =>
      intro h2
      have h2 : body e1 = .nx e := h2
      have e0 : forL st body (d :: ds) e = forL st body ds e := by
        rw [forL, h1]
        dsimp only
        rw [h2]
      rw [e0]
      exact ih
theorem fmR_map {f : Dt → R (Option Dt)} {g : Dt → Dt} : ∀ ds : List Dt, (∀ d ∈ ds, f d = .ok (some (g d))) → fmR f ds = .ok (ds.map g)
  | [], _ => rfl
  | d :: ds, h => by
    unfold fmR
    rw [h d (List.mem_cons_self ..)]
    dsimp only
    rw [fmR_map ds fun d hd => h d (List.mem_cons_of_mem _ hd)]
    rfl
/-- what a comprehension makes of a list that stands ready, each thing kept -/
theorem lc_map {mi : En → R (List Dt)} {vs : List Nat} {st : Dt → En → Option En} {me : En → R Dt} {e : En} {ds : List Dt} {g : Dt → Dt} (h : mi e = .ok ds) (hs : ∀ d ∈ ds, ∃ e1, st d (wipeE e vs) = some e1 ∧ me e1 = .ok (g d)) : qLC mi vs st bYes me e = .ok (.list (ds.map g)) := by
  unfold qLC
  rw [h]
  show (fmR (lcItem st bYes me (wipeE e vs)) ds).bind _ = _
  rw [fmR_map (g := g) ds fun d hd => ?_]
  · rfl
  · obtain ⟨e1, h1, h2⟩ := hs d hd
    unfold lcItem
    rw [h1]
    show (me e1).bind _ = _
    rw [h2]
    rfl
theorem lc_mapT {mi : En → R (List Dt)} {vs : List Nat} {st : Dt → En → Option En} {mt : En → R Bool} {me : En → R Dt} {e : En} {ds : List Dt} {g : Dt → Dt} (h : mi e = .ok ds) (hs : ∀ d ∈ ds, ∃ e1, st d (wipeE e vs) = some e1 ∧ mt e1 = .ok true ∧ me e1 = .ok (g d)) : qLC mi vs st mt me e = .ok (.list (ds.map g)) := by
  unfold qLC
  rw [h]
  show (fmR (lcItem st mt me (wipeE e vs)) ds).bind _ = _
  rw [fmR_map (g := g) ds fun d hd => ?_]
  · rfl
  · obtain ⟨e1, h1, h2, h3⟩ := hs d hd
    unfold lcItem
    rw [h1]
    dsimp only
    rw [h2]
    dsimp only
    rw [h3]
    rfl
/-- the list made of typed things -/
theorem lc_typ {α : Type} {mi : En → R (List Dt)} {vs : List Nat} {st : Dt → En → Option En} {me : En → R Dt} {e : En} (c : α → Dt) {xs : List α} {g : α → Dt} (h : mi e = .ok (xs.map c)) (hs : ∀ x ∈ xs, ∃ e1, st (c x) (wipeE e vs) = some e1 ∧ me e1 = .ok (g x)) : qLC mi vs st bYes me e = .ok (.list (xs.map g)) := by
  unfold qLC
  rw [h]
  show (fmR (lcItem st bYes me (wipeE e vs)) (xs.map c)).bind _ = _
  have key : ∀ xs : List α, (∀ x ∈ xs, ∃ e1, st (c x) (wipeE e vs) = some e1 ∧ me e1 = .ok (g x)) → fmR (lcItem st bYes me (wipeE e vs)) (xs.map c) = .ok (xs.map g) := by
    intro xs
    induction xs with
    | nil => exact fun _ => rfl
    | cons x xs ih =>
      intro hs
      obtain ⟨e1, h1, h2⟩ := hs x (List.mem_cons_self ..)
      have hi : lcItem st bYes me (wipeE e vs) (c x) = .ok (some (g x)) := by
        unfold lcItem
        rw [h1]
        show (me e1).bind _ = _
        rw [h2]
        rfl
      rw [List.map_cons, fmR, hi]
      dsimp only
      rw [ih fun y hy => hs y (List.mem_cons_of_mem _ hy)]
      rfl
  rw [key xs hs]
  rfl
theorem ints_map : ∀ ns : List Int, ints? (ns.map .int) = some ns
  | [] => rfl
  | n :: ns => by
    show (ints? (ns.map .int)).map _ = _
    rw [ints_map ns]
    rfl
theorem bools_map : ∀ ns : List Bool, bools? (ns.map .bool) = some ns
  | [] => rfl
  | n :: ns => by
    show (bools? (ns.map .bool)).map _ = _
    rw [bools_map ns]
    rfl
theorem sum_ints (ns : List Int) : sumD [.list (ns.map .int)] = some (.int ns.sum) := by
  show (ints? _).map _ = _
  rw [ints_map]
  rfl
theorem sum_tup (ns : List Int) : sumD [.tuple (ns.map .int)] = some (.int ns.sum) := by
  show (ints? _).map _ = _
  rw [ints_map]
  rfl
theorem all_bools (bs : List Bool) : allD [.list (bs.map .bool)] = some (.bool (bs.all id)) := by
  show (bools? _).map _ = _
  rw [bools_map]
  rfl
theorem all_true {α : Type} (xs : List α) {p : α → Bool} (h : ∀ x ∈ xs, p x = true) : (xs.map p).all id = true := by
  rw [List.all_eq_true]
  intro b hb
  obtain ⟨x, hx, rfl⟩ := List.mem_map.mp hb
  exact h x hx
/-! ### Euclid -/
theorem emod_gcd {a b : Int} (ha : 0 ≤ a) (hb : 0 ≤ b) : Int.gcd b (a % b) = Int.gcd a b := by
  obtain ⟨m, rfl⟩ := Int.eq_ofNat_of_zero_le ha
  obtain ⟨n, rfl⟩ := Int.eq_ofNat_of_zero_le hb
  show Nat.gcd n (m % n) = Nat.gcd m n
  rw [Nat.gcd_comm m n, Nat.gcd_rec n m, Nat.gcd_comm]
/-- one turn of Euclid while there is something left -/
def eu (p : Int × Int) : Int × Int := if 0 < p.2 then (p.2, p.1 % p.2) else p
theorem eu_gcd {p : Int × Int} (h : 0 ≤ p.1 ∧ 0 ≤ p.2) : Int.gcd (eu p).1 (eu p).2 = Int.gcd p.1 p.2 := by
  unfold eu
  split
  · exact emod_gcd h.1 h.2
  · rfl
theorem eu_nn {p : Int × Int} (h : 0 ≤ p.1 ∧ 0 ≤ p.2) : 0 ≤ (eu p).1 ∧ 0 ≤ (eu p).2 := by
  unfold eu
  split
  · rename_i h2
    exact ⟨h.2, Int.emod_nonneg _ (by omega)⟩
  · exact h
def euN : Nat → Int × Int → Int × Int
  | 0, p => p
  | n + 1, p => euN n (eu p)
theorem euN_nn : ∀ (n : Nat) (p : Int × Int), 0 ≤ p.1 ∧ 0 ≤ p.2 → 0 ≤ (euN n p).1 ∧ 0 ≤ (euN n p).2
  | 0, _, h => h
  | n + 1, p, h => euN_nn n (eu p) (eu_nn h)
theorem euN_gcd : ∀ (n : Nat) (p : Int × Int), 0 ≤ p.1 ∧ 0 ≤ p.2 → Int.gcd (euN n p).1 (euN n p).2 = Int.gcd p.1 p.2
  | 0, _, _ => rfl
  | n + 1, p, h => (euN_gcd n (eu p) (eu_nn h)).trans (eu_gcd h)
/-- after two turns what is left is less than half -/
theorem eu_half {p : Int × Int} (h : 0 ≤ p.1 ∧ 0 ≤ p.2) : 2 * (eu (eu p)).2 ≤ p.2 := by
  unfold eu
  by_cases h1 : 0 < p.2
  · rw [if_pos h1]
    dsimp only
    by_cases h2 : 0 < p.1 % p.2
    · rw [if_pos h2]
      dsimp only
      have a := Int.emod_lt_of_pos p.1 h1
      have b := Int.emod_lt_of_pos p.2 h2
      have c := Int.emod_nonneg p.2 (b := p.1 % p.2) (by omega)
      generalize p.1 % p.2 = r at *
      have d : p.2 = r * (p.2 / r) + p.2 % r := (Int.mul_ediv_add_emod _ _).symm
      have q1 : 1 ≤ p.2 / r := Int.le_ediv_of_mul_le h2 (by omega)
      have q2 : r * 1 ≤ r * (p.2 / r) := Int.mul_le_mul_of_nonneg_left q1 (by omega)
      omega
    · rw [if_neg h2]
      dsimp only
      have c := Int.emod_nonneg p.1 (b := p.2) (by omega)
      omega
  · rw [if_neg h1, if_neg h1]
    omega
theorem euN_small : ∀ (k : Nat) (p : Int × Int), 0 ≤ p.1 ∧ 0 ≤ p.2 → p.2 < 2 ^ k → (euN (2 * k) p).2 = 0
  | 0, p, h, hk => by
    show p.2 = 0
    omega
  | k + 1, p, h, hk => by
    show (euN (2 * k) (eu (eu p))).2 = 0
    refine euN_small k _ (eu_nn (eu_nn h)) ?_
    have := eu_half h
    have e : (2 : Int) ^ (k + 1) = 2 * 2 ^ k := by rw [Int.pow_succ, Int.mul_comm]
    omega
theorem euN_zero : ∀ (n : Nat) (p : Int × Int), p.2 = 0 → euN n p = p
  | 0, _, _ => rfl
  | n + 1, p, h => by
    have e : eu p = p := by unfold eu; rw [if_neg (by omega)]
    show euN n (eu p) = p
    rw [e]
    exact euN_zero n p h
theorem euN_add : ∀ (m n : Nat) (p : Int × Int), euN (m + n) p = euN n (euN m p)
  | 0, n, p => by rw [Nat.zero_add]; rfl
  | m + 1, n, p => by
    rw [Nat.add_right_comm]
    exact euN_add m n (eu p)
theorem euN_done {n k : Nat} {p : Int × Int} (h : 0 ≤ p.1 ∧ 0 ≤ p.2) (hk : p.2 < 2 ^ k) (hn : 2 * k ≤ n) : euN n p = (((Int.gcd p.1 p.2 : Nat) : Int), (0 : Int)) := by
  obtain ⟨j, rfl⟩ := Nat.exists_eq_add_of_le hn
  rw [euN_add]
  have z := euN_small k p h hk
  rw [euN_zero j _ z]
  have g := euN_gcd (2 * k) p h
  have nn := euN_nn (2 * k) p h
  rw [z, Int.gcd_zero_right] at g
  refine Prod.ext ?_ z
  show (euN (2 * k) p).1 = _
  rw [← g]
  omega
end PL
namespace PL
open PySem PySem.Spec L2 VL
/-! ### what is shown is a text -/
def Gd (x : Str) : Prop := ∀ c ∈ x.cps.toList, c < 0x110000
theorem chr_lt (c : Char) : c.toNat < 0x110000 := by
  have h := c.valid
  have e : c.toNat = c.val.toNat := rfl
  rcases h with h | h
  · have h : c.val.toNat < 0xd800 := h
    omega
  · have h : c.val.toNat < 0x110000 := h.2
    omega
theorem gd_of (s : String) : Gd (Str.ofString s) := fun c hc => by
  rw [Str.ofString_eq_toList] at hc
  have hc : c ∈ s.toList.map Char.toNat := by simpa using hc
  obtain ⟨k, _, rfl⟩ := List.mem_map.mp hc
  exact chr_lt k
theorem gd_app {x y : Str} (hx : Gd x) (hy : Gd y) : Gd (x ++ y) := fun c hc => by
  have e : (x ++ y).cps = x.cps ++ y.cps := rfl
  rw [e, Array.toList_append] at hc
  rcases List.mem_append.mp hc with h | h
  · exact hx c h
  · exact hy c h
theorem gd_textFrom : ∀ (ts : List Str) (k : Nat) (acc : Str), Gd acc → (∀ t ∈ ts, Gd t) → Gd (textFrom k acc ts)
  | [], k, acc, h, _ => h
  | t :: ts, k, acc, h, ht => by
    unfold textFrom
    refine gd_textFrom ts _ _ ?_ fun u hu => ht u (List.mem_cons_of_mem _ hu)
    have h1 := ht t (List.mem_cons_self ..)
    first
      | (split <;> first | exact gd_app (gd_app h (gd_of _)) h1 | exact gd_app h h1)
      | exact gd_app (gd_app h (gd_of _)) h1
theorem gd_join : ∀ ts : List Str, (∀ t ∈ ts, Gd t) → Gd (Str.join ", " ts)
  | [], _ => fun c hc => by cases hc
  | [x], h => h x (List.mem_cons_self ..)
  | x :: y :: r, h => gd_app (gd_app (h x (List.mem_cons_self ..)) (gd_of _)) (gd_join (y :: r) fun t ht => h t (List.mem_cons_of_mem _ ht))
theorem gd_hex (w c : Nat) : ∀ k ∈ List.replicate (w - ((Nat.toDigits 16 c).map Char.toNat).length) 48 ++ (Nat.toDigits 16 c).map Char.toNat, k < 0x110000 := fun k hk => by
  rcases List.mem_append.mp hk with h | h
  · rw [(List.mem_replicate.mp h).2]; decide
  · obtain ⟨d, _, rfl⟩ := List.mem_map.mp h
    exact chr_lt d
theorem gd_chr (q c : Nat) (hc : c < 0x110000) : ∀ k ∈ Builtin.Str.reprChar q c, k < 0x110000 := by
  intro k
  unfold Builtin.Str.reprChar
  dsimp only
  repeat' split
  all_goals intro hk
  all_goals try (simp only [List.mem_append, List.mem_cons, List.not_mem_nil, or_false] at hk)
  all_goals first
    | omega
    | (rcases hk with (rfl | rfl) | hk
       · decide
       · decide
       · exact gd_hex _ _ k (List.mem_append.mpr (by first | exact hk | simpa using hk)))
theorem gd_repr {x : Str} (h : Gd x) : Gd (reprText x) := fun c hc => by
  have hq : reprQuote x < 0x110000 := by
    unfold reprQuote
    split <;> decide
  have key : ∀ (l : List Nat) (acc : Array Nat), (∀ c ∈ l, c < 0x110000) → (∀ c ∈ acc.toList, c < 0x110000) → ∀ c ∈ (l.foldl (fun out c => out ++ (Builtin.Str.reprChar (reprQuote x) c).toArray) acc).toList, c < 0x110000 := by
    intro l
    induction l with
    | nil => exact fun acc _ ha => ha
    | cons d l ih =>
      intro acc hl ha
      rw [List.foldl_cons]
      refine ih _ (fun c hc => hl c (List.mem_cons_of_mem _ hc)) fun c hc => ?_
      rw [Array.toList_append] at hc
      rcases List.mem_append.mp hc with h | h
      · exact ha c h
      · exact gd_chr _ d (hl d (List.mem_cons_self ..)) c (by simpa using h)
  have e : (reprText x).cps = ((x.cps.toList.foldl (fun out c => out ++ (Builtin.Str.reprChar (reprQuote x) c).toArray) #[reprQuote x]).push (reprQuote x)) := by
    unfold reprText
    rw [← Array.foldl_toList]
  rw [e, Array.toList_push] at hc
  rcases List.mem_append.mp hc with h1 | h1
  · exact key x.cps.toList #[reprQuote x] h (fun c hc => by
      have : c = reprQuote x := by simpa using hc
      rw [this]
      exact hq) c h1
  · have : c = reprQuote x := by simpa using h1
    rw [this]
    exact hq
mutual
theorem gd_shown : ∀ d : Dt, sm d = true → Gd d.shown
  | .none, _ => gd_of _
  | .bool b, _ => by cases b <;> exact gd_of _
  | .int i, _ => gd_of _
  | .str x, h => by
    have h' : PyData.strOk x = true := by simpa [sm] using h
    refine gd_repr fun c hc => ?_
    unfold PyData.strOk at h'
    rw [Array.all_eq_true_iff_forall_mem] at h'
    have := h' c (by simpa using hc)
    simpa using this
  | .list xs, h => by
    have h' : smAll xs = true := by simpa [sm] using h
    have e : (PyData.list xs).shown = listText (PyData.shownAll xs) := by simp only [PyData.shown]
    rw [e]
    exact gd_app (gd_textFrom _ _ _ (gd_of _) (gd_shownAll xs h')) (gd_of _)
  | .tuple xs, h => by
    have h' : smAll xs = true := by simpa [sm] using h
    have e : (PyData.tuple xs).shown = tupleText (PyData.shownAll xs) := by simp only [PyData.shown]
    rw [e]
    exact gd_app (gd_app (gd_of _) (gd_join _ (gd_shownAll xs h'))) (gd_of _)
  | .dict _, h => by simp [sm] at h
theorem gd_shownAll : ∀ xs : List Dt, smAll xs = true → ∀ t ∈ PyData.shownAll xs, Gd t
  | [], _, t, ht => by simp [PyData.shownAll] at ht
  | x :: xs, h, t, ht => by
    have h' : sm x = true ∧ smAll xs = true := by simpa [smAll] using h
    have ht : t = x.shown ∨ t ∈ PyData.shownAll xs := by simpa [PyData.shownAll] using ht
    rcases ht with rfl | ht
    · exact gd_shown x h'.1
    · exact gd_shownAll xs h'.2 t ht
end
theorem ok_of_gd {x : Str} (h : Gd x) : PyData.strOk x = true := by
  unfold PyData.strOk
  rw [Array.all_eq_true_iff_forall_mem]
  intro c hc
  exact decide_eq_true (h c (by simpa using hc))
theorem sm_str (s : String) : sm (.str (Str.ofString s)) = true := by
  have := ok_of_gd (gd_of s)
  simpa [sm] using this
/-- small data, of few things -/
structure Tx (d : Dt) : Prop where
  sm : sm d = true
  dp : d.depth ≤ 60
  wt : d.weight ≤ 2 ^ 20
theorem Tx.rep {d : Dt} (h : Tx d) : repD [d] = some (.str d.shown) := repD_ok (shOk_of h.sm h.dp h.wt)
/-- the texts of the same data are not unlike -/
theorem Tx.ne {d : Dt} (h : Tx d) : neD (.str d.shown) (.str d.shown) = some (.bool false) := strOk_shown (ok_of_gd (gd_shown d h.sm))
/-- repr(a) != repr(b), a and b the same -/
theorem rep_ne {ma mb : En → R Dt} {e : En} {d : Dt} (h : Tx d) (ha : ma e = .ok d) (hb : mb e = .ok d) : qT (q2 neD (qC repD (lcons ma lnil)) (qC repD (lcons mb lnil))) e = .ok false :=
  qT_ok (q2_ok (qC1_ok ha h.rep) (qC1_ok hb h.rep) h.ne)
end PL
namespace PL
open PySem PySem.Spec L2 VL
/-! ### readings with draws -/
theorem mB_ok {α γ : Type} {m : En → R (α × En)} {k : α → En → R (γ × En)} {e e1 : En} {a : α} (h : m e = .ok (a, e1)) : mB m k e = k a e1 := by
  unfold mB
  rw [h]
  rfl
theorem mQ_ok {α : Type} {m : En → R α} {e : En} {a : α} (h : m e = .ok a) : mQ m e = .ok (a, e) := by
  unfold mQ
  rw [h]
  rfl
theorem mO_ok {α : Type} {o : Option α} {e : En} {a : α} (h : o = some a) : mO o e = .ok (a, e) := by
  rw [h]
  rfl
theorem mio_ok {i : Nat} {m : Dt → List Dt → R (Dt × Dt)} {ml : En → R (List Dt × En)} {e e1 : En} {ds : List Dt} {d h' : Dt} (hl : ml e = .ok (ds, e1)) (hm : m (e1.getD i .none) ds = .ok (d, h')) : mIo i m ml e = .ok (d, e1.set i h') := by
  unfold mIo
  rw [hl]
  show ((m (e1.getD i .none) ds).bind _) = _
  rw [hm]
  rfl
theorem m2_ok {f : Dt → Dt → Option Dt} {ma mb : En → R (Dt × En)} {e e1 e2 : En} {x y z : Dt} (ha : ma e = .ok (x, e1)) (hb : mb e1 = .ok (y, e2)) (h : f x y = some z) : m2 f ma mb e = .ok (z, e2) := by
  unfold m2
  rw [mB_ok ha, mB_ok hb, mO_ok h]
theorem m1_ok {f : Dt → Option Dt} {ma : En → R (Dt × En)} {e e1 : En} {x z : Dt} (ha : ma e = .ok (x, e1)) (h : f x = some z) : m1 f ma e = .ok (z, e1) := by
  unfold m1
  rw [mB_ok ha, mO_ok h]
theorem mnil_ok (e : En) : mnil e = .ok ([], e) := rfl
theorem mcons_ok {m : En → R (Dt × En)} {ml : En → R (List Dt × En)} {e e1 e2 : En} {d : Dt} {ds : List Dt} (h : m e = .ok (d, e1)) (hl : ml e1 = .ok (ds, e2)) : mcons m ml e = .ok (d :: ds, e2) := by
  unfold mcons
  rw [mB_ok h, mB_ok hl]
  rfl
theorem mtup_ok {ml : En → R (List Dt × En)} {e e1 : En} {ds : List Dt} (hl : ml e = .ok (ds, e1)) : mtup ml e = .ok (.tuple ds, e1) := by
  unfold mtup
  rw [mB_ok hl]
  rfl
theorem mlst_ok {ml : En → R (List Dt × En)} {e e1 : En} {ds : List Dt} (hl : ml e = .ok (ds, e1)) : mlst ml e = .ok (.list ds, e1) := by
  unfold mlst
  rw [mB_ok hl]
  rfl
theorem mT_ok {m : En → R (Dt × En)} {e e1 : En} {b : Bool} (h : m e = .ok (.bool b, e1)) : mT m e = .ok (b, e1) := by
  unfold mT
  rw [mB_ok h]
  rfl
theorem mNot_ok {m : En → R (Bool × En)} {e e1 : En} {b : Bool} (h : m e = .ok (b, e1)) : mNot m e = .ok (!b, e1) := by
  unfold mNot
  rw [mB_ok h]
  rfl
theorem mOr_f {na nb : En → R (Bool × En)} {e e1 : En} (h : na e = .ok (false, e1)) : mOr na nb e = nb e1 := by
  unfold mOr
  rw [mB_ok h]
  rfl
theorem mIf_t {n : En → R (Bool × En)} {ma mb : En → R (Dt × En)} {e e1 : En} (h : n e = .ok (true, e1)) : mIf n ma mb e = ma e1 := by
  unfold mIf
  rw [mB_ok h]
  rfl
theorem mIf_f {n : En → R (Bool × En)} {ma mb : En → R (Dt × En)} {e e1 : En} (h : n e = .ok (false, e1)) : mIf n ma mb e = mb e1 := by
  unfold mIf
  rw [mB_ok h]
  rfl
theorem setM_ok {i : Nat} {m : En → R (Dt × En)} {e e1 : En} {d : Dt} (h : m e = .ok (d, e1)) : sSetM i m e = .nx (e1.set i d) := by
  unfold sSetM
  rw [h]
  rfl
theorem retM_ok {m : En → R (Dt × En)} {e e1 : En} {d : Dt} (h : m e = .ok (d, e1)) : sRetM m e = .rt d e1 := by
  unfold sRetM
  rw [h]
  rfl
theorem asgM_ok {st : Dt → En → Option En} {m : En → R (Dt × En)} {e e1 e2 : En} {d : Dt} (h : m e = .ok (d, e1)) (hs : st d e1 = some e2) : sAsgM st m e = .nx e2 := by
  unfold sAsgM
  rw [h]
  show (match st d e1 with | some e' => RS.nx e' | none => .bad) = _
  rw [hs]
theorem ifM_f {c : En → R (Bool × En)} {m n : En → RS} {e e1 : En} (h : c e = .ok (false, e1)) : sIfM c m n e = n e1 := by
  unfold sIfM
  rw [h]
  rfl
theorem ifM_t {c : En → R (Bool × En)} {m n : En → RS} {e e1 : En} (h : c e = .ok (true, e1)) : sIfM c m n e = m e1 := by
  unfold sIfM
  rw [h]
  rfl
theorem mut_app {i : Nat} {m : En → R (Dt × En)} {e e1 : En} {d : Dt} {ds : List Dt} (hl : isL (e.getD i .none) = true) (h : m e = .ok (d, e1)) (hd : e1.getD i .none = .list ds) (hn : ds.length < sizeLine) : sMut appD i m e = .nx (e1.set i (.list (ds ++ [d]))) := by
  unfold sMut
  rw [if_pos hl, h]
  show (match appD (e1.getD i .none) d with | some d' => RS.nx (e1.set i d') | none => .bad) = _
  rw [hd, show appD (.list ds) d = some (.list (ds ++ [d])) from if_pos hn]
theorem fmM_inv {f : Dt → En → R (Option Dt × En)} {I : En → Prop} {P : Dt → Prop} : ∀ (ds : List Dt) (e : En), (∀ d ∈ ds, ∀ e, I e → ∃ x e', f d e = .ok (some x, e') ∧ I e' ∧ P x) → I e → ∃ xs e', fmM f ds e = .ok (xs, e') ∧ I e' ∧ xs.length = ds.length ∧ ∀ x ∈ xs, P x
  | [], e, _, h => ⟨[], e, rfl, h, rfl, fun x hx => by cases hx⟩
  | d :: ds, e, hs, h => by
    obtain ⟨x, e1, h1, h2, h3⟩ := hs d (List.mem_cons_self ..) e h
    obtain ⟨xs, e2, h4, h5, h6, h7⟩ := fmM_inv ds e1 (fun d hd => hs d (List.mem_cons_of_mem _ hd)) h2
    refine ⟨x :: xs, e2, ?_, h5, by rw [List.length_cons, List.length_cons, h6], fun y hy => ?_⟩
    · unfold fmM
      rw [h1]
      show ((fmM f ds e1).bind _) = _
      rw [h4]
      rfl
    · rcases List.mem_cons.mp hy with rfl | hy
      · exact h3
      · exact h7 y hy
theorem mlc_inv {mi : En → R (List Dt × En)} {vs : List Nat} {st : Dt → En → Option En} {me : En → R (Dt × En)} {I : En → Prop} {P : Dt → Prop} {e e0 : En} {ds : List Dt} (h : mi e = .ok (ds, e0)) (h0 : I (wipeE e0 vs)) (hs : ∀ d ∈ ds, ∀ e, I e → ∃ e1 x e2, st d e = some e1 ∧ me e1 = .ok (x, e2) ∧ I (wipeE e2 vs) ∧ P x) :
    ∃ xs e', mLC mi vs st (mQ bYes) me e = .ok (.list xs, e') ∧ I e' ∧ xs.length = ds.length ∧ ∀ x ∈ xs, P x := by
  obtain ⟨xs, e', h1, h2, h3, h4⟩ := fmM_inv (f := lcItemM vs st (mQ bYes) me) (I := I) (P := P) ds (wipeE e0 vs) (fun d hd e he => by
    obtain ⟨e1, x, e2, k1, k2, k3, k4⟩ := hs d hd e he
    refine ⟨x, wipeE e2 vs, ?_, k3, k4⟩
    unfold lcItemM
    rw [k1]
    show ((me e1).bind _) = _
    rw [k2]
    rfl) h0
  refine ⟨xs, e', ?_, h2, h3, h4⟩
  unfold mLC
  rw [h]
  show ((fmM _ ds (wipeE e0 vs)).bind _) = _
  rw [h1]
  rfl
theorem forL_cnt {st : Dt → En → Option En} {body : En → RS} {I : Nat → En → Prop} {N : Nat} : ∀ (ds : List Dt) (n : Nat) (e : En), n + ds.length ≤ N → (∀ n, n < N → ∀ d ∈ ds, ∀ e, I n e → ∃ e1 e2, st d e = some e1 ∧ body e1 = .nx e2 ∧ I (n + 1) e2) → I n e → ∃ e', forL st body ds e = .nx e' ∧ I (n + ds.length) e'
  | [], n, e, _, _, h => ⟨e, rfl, h⟩
  | d :: ds, n, e, hn, hs, h => by
    rw [List.length_cons] at hn
    obtain ⟨e1, e2, h1, h2, h3⟩ := hs n (by omega) d (List.mem_cons_self ..) e h
    obtain ⟨e', h4, h5⟩ := forL_cnt ds (n + 1) e2 (by omega) (fun n hn d hd => hs n hn d (List.mem_cons_of_mem _ hd)) h3
    refine ⟨e', ?_, by rw [List.length_cons, show n + (ds.length + 1) = n + 1 + ds.length by omega]; exact h5⟩
    unfold forL
    rw [h1]
    show (match body e1 with | .nx e2 => forL st body ds e2 | .ct e2 => forL st body ds e2 | .bk e2 => .nx e2 | .rt x e2 => .rt x e2 | .exc x => .exc x | .bad => .bad) = _
    rw [h2]
    exact h4
theorem rg1_ok {j : Int} (h : j ≤ 1000000) (h0 : 0 ≤ j) : rg1 [.int j] = some (rangeD 0 j) := if_pos ⟨by omega, by omega, by rw [sizeLine_eq]; omega⟩
theorem range_len (j : Int) : (rangeD 0 j).length = j.toNat := by
  unfold rangeD
  rw [List.length_map, List.length_range]
  congr 1
  omega
theorem iOf_ok {f : List Dt → Option (List Dt)} {ml : En → R (List Dt)} {e : En} {ds xs : List Dt} (h : ml e = .ok ds) (hf : f ds = some xs) : iOf f ml e = .ok xs := by
  unfold iOf
  rw [h]
  show R.ofO (f ds) = _
  rw [hf]
  rfl
theorem sFor_ok {mi : En → R (List Dt)} {st : Dt → En → Option En} {body : En → RS} {e : En} {ds : List Dt} (h : mi e = .ok ds) : sFor mi st body e = forL st body ds e := by
  unfold sFor
  rw [h]
/-! ### draws -/
def Dr (m : Dt → List Dt → R (Dt × Dt)) : Prop := ∀ h, HandOk h → ∀ b : Int, 0 < b → b < 1073741824 → ∃ d h', m h [.int b] = .ok (.int d, h') ∧ HandOk h' ∧ 0 ≤ d ∧ d < b
theorem dr_draw {k0 : Int} : Dr (m_draw k0) := fun h ok b h0 h1 => draw_ok ok h0 h1
theorem dr_at {m : Dt → List Dt → R (Dt × Dt)} (D : Dr m) {q : En → R Dt} {h : Dt} {r : En} (ok : HandOk h) {b : Int} (hq : q (h :: r) = .ok (.int b)) (h0 : 0 < b) (h1 : b < 1073741824) : ∃ d h', mIo 0 m (mcons (mQ q) mnil) (h :: r) = .ok (.int d, h' :: r) ∧ HandOk h' ∧ 0 ≤ d ∧ d < b := by
  obtain ⟨d, h', e, k1, k2, k3⟩ := D h ok b h0 h1
  exact ⟨d, h', mio_ok (mcons_ok (mQ_ok hq) (mnil_ok _)) e, k1, k2, k3⟩
def b_any (m : Dt → List Dt → R (Dt × Dt)) : En → RS := (sSeq (sRetM (m2 ixD (mQ (qv 1)) (mIo 0 m (mcons (mQ (qC lenD (lcons (qv 1) lnil))) mnil)))) sNx)
def m_any (m : Dt → List Dt → R (Dt × Dt)) (d0 : Dt) (ds : List Dt) : R (Dt × Dt) := finM (b_any m (ioE d0 ds 0))
/-- what is drawn of a list is one of it -/
def An (m : Dt → List Dt → R (Dt × Dt)) : Prop := ∀ h, HandOk h → ∀ ds : List Dt, 0 < ds.length → ds.length < 1073741824 → ∃ d h', m h [.list ds] = .ok (d, h') ∧ HandOk h' ∧ d ∈ ds
theorem any_ok {m : Dt → List Dt → R (Dt × Dt)} (D : Dr m) : An (m_any m) := fun h ok ds h0 h1 => by
  obtain ⟨d, h', e, k1, k2, k3⟩ := dr_at D (q := qC lenD (lcons (qv 1) lnil)) (r := [.list ds]) ok (b := ds.length) rfl (by omega) (by omega)
  have hd : d.toNat < ds.length := by omega
  have e2 : m2 ixD (mQ (qv 1)) (mIo 0 m (mcons (mQ (qC lenD (lcons (qv 1) lnil))) mnil)) [h, .list ds] = .ok (ds[d.toNat], [h', .list ds]) := by
    refine m2_ok (mQ_ok rfl) e ?_
    show atI ds d = _
    rw [atI_of k2, List.getElem?_eq_getElem hd]
  refine ⟨ds[d.toNat], h', ?_, k1, List.getElem_mem hd⟩
  show finM (sSeq _ _ [h, .list ds]) = _
  rw [seq_rt (retM_ok e2)]
  rfl
theorem an_at {m : Dt → List Dt → R (Dt × Dt)} (D : An m) {q : En → R (Dt × En)} {h h1 : Dt} {r : En} {ds : List Dt} (hq : q (h :: r) = .ok (.list ds, h1 :: r)) (ok : HandOk h1) (h0 : 0 < ds.length) (hl : ds.length < 1073741824) : ∃ d h', mIo 0 m (mcons q mnil) (h :: r) = .ok (d, h' :: r) ∧ HandOk h' ∧ d ∈ ds := by
  obtain ⟨d, h', e, k1, k2⟩ := D h1 ok ds h0 hl
  exact ⟨d, h', mio_ok (mcons_ok hq (mnil_ok _)) e, k1, k2⟩
/-! ### ops on flags and words -/
theorem ne_bool (a b : Bool) : neD (.bool a) (.bool b) = some (.bool (a != b)) := by cases a <;> cases b <;> rfl
theorem eq_str (x : String) : eqD (.str (Str.ofString x)) (.str (Str.ofString x)) = some (.bool true) := by
  unfold eqD eqOk SeqAt.shaped
  have h : (PyData.str (Str.ofString x)).canLay0 = true := ok_of_gd (gd_of x)
  rw [h, eqv_refl_str]
  rfl
theorem eq_str_ne {x y : String} (h : (Str.ofString x == Str.ofString y) = false) : eqD (.str (Str.ofString x)) (.str (Str.ofString y)) = some (.bool false) := by
  unfold eqD eqOk SeqAt.shaped
  have hx : (PyData.str (Str.ofString x)).canLay0 = true := ok_of_gd (gd_of x)
  have hy : (PyData.str (Str.ofString y)).canLay0 = true := ok_of_gd (gd_of y)
  have e : PyData.eqv (.str (Str.ofString x)) (.str (Str.ofString y)) = false := by simpa [PyData.eqv] using h
  rw [hx, hy, e]
  rfl
/-! ### the hand is made -/
theorem hand_ok {cs : List Int} (h : ∀ c ∈ cs, 0 ≤ c) (y : Int) : HandOk (hd cs 0 0 y 0) := ⟨cs, 0, 0, y, 0, rfl, h, Int.le_refl _, Int.le_refl _⟩
end PL
namespace PL
open PySem PySem.Spec L2 VL
theorem fmR_fil {f : Dt → R (Option Dt)} {p : Dt → Bool} : ∀ ds : List Dt, (∀ d ∈ ds, f d = .ok (if p d = true then some d else none)) → fmR f ds = .ok (ds.filter p)
  | [], _ => rfl
  | d :: ds, h => by
    have ih := fmR_fil (f := f) (p := p) ds fun d hd => h d (List.mem_cons_of_mem _ hd)
    have h0 := h d (List.mem_cons_self ..)
    unfold fmR
    rw [h0, List.filter_cons]
    by_cases hp : p d = true
    · rw [if_pos hp, if_pos hp]
      dsimp only
      rw [ih]
      rfl
    · rw [if_neg hp, if_neg hp]
      exact ih
theorem lc_fil {mi : En → R (List Dt)} {vs : List Nat} {st : Dt → En → Option En} {mt : En → R Bool} {me : En → R Dt} {e : En} {ds : List Dt} (p : Dt → Bool) (h : mi e = .ok ds) (hs : ∀ d ∈ ds, ∃ e1, st d (wipeE e vs) = some e1 ∧ mt e1 = .ok (p d) ∧ me e1 = .ok d) : qLC mi vs st mt me e = .ok (.list (ds.filter p)) := by
  unfold qLC
  rw [h]
  show (fmR (lcItem st mt me (wipeE e vs)) ds).bind _ = _
  rw [fmR_fil (p := p) ds fun d hd => ?_]
  · rfl
  · obtain ⟨e1, h1, h2, h3⟩ := hs d hd
    unfold lcItem
    rw [h1]
    dsimp only
    rw [h2]
    cases hp : p d with
    | true =>
      dsimp only
      rw [h3]
      rfl
    | false => rfl
theorem all_of {mi : En → R (List Dt)} {vs : List Nat} {st : Dt → En → Option En} {me : En → R Dt} {e : En} {ds : List Dt} (p : Dt → Bool) (h : mi e = .ok ds) (hs : ∀ d ∈ ds, ∃ e1, st d (wipeE e vs) = some e1 ∧ me e1 = .ok (.bool (p d))) : qC allD (lcons (qLC mi vs st bYes me) lnil) e = .ok (.bool (ds.all p)) := by
  refine qC1_ok (lc_map (g := fun d => .bool (p d)) h hs) ?_
  have e1 : (ds.map fun d => PyData.bool (p d)) = (ds.map p).map .bool := by rw [List.map_map]; rfl
  rw [e1, all_bools, List.all_map]
  rfl
theorem bOr_t {a b : En → R Bool} {e : En} (h : a e = .ok true) : bOr a b e = .ok true := by
  unfold bOr
  rw [h]
  rfl
theorem bOr_f {a b : En → R Bool} {e : En} (h : a e = .ok false) : bOr a b e = b e := by
  unfold bOr
  rw [h]
  rfl
theorem qAnd_t {a b : En → R Dt} {e : En} (h : a e = .ok (.bool true)) : qAnd a b e = b e := by
  unfold qAnd
  rw [h]
  rfl
theorem qAnd_f {a b : En → R Dt} {e : En} (h : a e = .ok (.bool false)) : qAnd a b e = .ok (.bool false) := by
  unfold qAnd
  rw [h]
  rfl
theorem ret1 {m : En → R Dt} {e : En} {d : Dt} (h : m e = .ok d) : fin (sSeq (sRet m) sNx e) = .ok d := by
  rw [seq_rt (ret_ok h)]
  rfl
def isI : Dt → Bool
  | .int _ => true
  | _ => false
def inR (a b : Int) : Dt → Bool
  | .int i => decide (a ≤ i) && decide (i ≤ b)
  | _ => false
def isT : Dt → Bool
  | .tuple _ => true
  | _ => false
def nums : List Dt → Option (List Int)
  | [] => some []
  | .int i :: r => (nums r).map fun l => i :: l
  | _ => none
theorem nums_ints (l : List Int) : nums (l.map .int) = some l := by
  induction l with
  | nil => rfl
  | cons i l ih =>
    show (nums (l.map .int)).map _ = _
    rw [ih]
    rfl
theorem isI_all : ∀ ds : List Dt, ds.all isI = true → ∃ l : List Int, ds = l.map .int
  | [], _ => ⟨[], rfl⟩
  | d :: ds, h => by
    rw [List.all_cons, Bool.and_eq_true] at h
    obtain ⟨l, rfl⟩ := isI_all ds h.2
    cases d with
    | int i => exact ⟨i :: l, rfl⟩
    | none => cases h.1
    | bool _ => cases h.1
    | str _ => cases h.1
    | list _ => cases h.1
    | tuple _ => cases h.1
    | dict _ => cases h.1
theorem inR_isI {a b : Int} {d : Dt} (h : inR a b d = true) : isI d = true := by
  cases d <;> first | rfl | cases h
theorem sIf_ret {c : En → R Bool} {e : En} {b : Bool} {n : En → RS} {d : Dt} (h : c e = .ok b) : sSeq (sIf c (sSeq (sRet (qc d)) sNx) sNx) n e = if b = true then .rt d e else n e := by
  cases b with
  | true =>
    rw [seq_rt ((if_t h).trans (seq_rt (ret_ok rfl)))]
    rfl
  | false =>
    rw [seq_if_f h]
    rfl
theorem any_mem {d : Dt} {rows : List (List Dt)} (h : d ∈ rows.map PyData.tuple) : ∃ r, r ∈ rows ∧ d = .tuple r := by
  obtain ⟨r, h1, rfl⟩ := List.mem_map.mp h
  exact ⟨r, h1, rfl⟩
theorem rows_loop {body : En → RS} {e : En} {rows : List (List Dt)} {i : Nat} (p : List Dt → Bool) (h : ∀ r ∈ rows, ∃ e3, body (e.set i (.tuple r)) = if p r = true then .nx e else .rt (.bool false) e3) : ∃ e2, forL (gN i) body (rows.map .tuple) e = if rows.all p = true then .nx e else .rt (.bool false) e2 := by
  induction rows with
  | nil => exact ⟨e, rfl⟩
  | cons r rows ih =>
    obtain ⟨e2, h2⟩ := ih fun r hr => h r (List.mem_cons_of_mem _ hr)
    obtain ⟨e3, h1⟩ := h r (List.mem_cons_self ..)
    rw [List.map_cons, List.all_cons]
    have e0 : forL (gN i) body (.tuple r :: rows.map .tuple) e = match body (e.set i (.tuple r)) with
        | .nx e2 => forL (gN i) body (rows.map .tuple) e2
        | .ct e2 => forL (gN i) body (rows.map .tuple) e2
        | .bk e2 => .nx e2
        | .rt x e2 => .rt x e2
        | .exc x => .exc x
        | .bad => .bad := by
      rw [forL]
      rfl
    rw [e0, h1]
    cases hp : p r with
    | true => exact ⟨e2, by rw [Bool.true_and]; exact h2⟩
    | false => exact ⟨_, rfl⟩
theorem neD_int (i j : Int) : neD (.int i) (.int j) = some (.bool (!decide (i = j))) := by
  show some (PyData.bool (!(i == j))) = _
  rw [show (i == j) = decide (i = j) from by by_cases h : i = j <;> simp [h]]
theorem chain_lt {a b c : En → R Dt} {e : En} {x y z : Int} (ha : a e = .ok (.int x)) (hb : b e = .ok (.int y)) (hc : c e = .ok (.int z)) : qChB leD ltD a b c e = .ok (.bool (decide (x ≤ y) && decide (y < z))) := by
  unfold qChB
  rw [ha, hb, hc]
  show (((R.ofO (leD (.int x) (.int y))).bind fun k => (bB k).bind fun k => if k = true then (((R.ofO (ltD (.int y) (.int z))).bind fun k => (bB k).bind fun k => R.ok (PyData.bool k)) : R Dt) else .ok (.bool false)) : R Dt) = _
  rw [le_int, lt_int]
  by_cases h1 : x ≤ y
  · rw [decide_eq_true h1]
    rfl
  · rw [decide_eq_false h1]
    rfl
theorem app_loop {body : En → RS} {j : Nat} {E : List Dt → En} {g : Nat → Dt} {N : Nat} : ∀ (L : List Nat) (acc : List Dt), acc.length + L.length ≤ N → (∀ i ∈ L, ∀ acc : List Dt, acc.length < N → body ((E acc).set j (.int (0 + (i : Int)))) = .nx (E (acc ++ [g i]))) →
    forL (gN j) body (L.map fun (i : Nat) => PyData.int (0 + (i : Int))) (E acc) = .nx (E (acc ++ L.map g))
  | [], acc, _, _ => by
    show RS.nx (E acc) = .nx (E (acc ++ []))
    rw [List.append_nil]
  | i :: L, acc, hn, h => by
    rw [List.length_cons] at hn
    have h1 := h i (List.mem_cons_self ..) acc (by omega)
    have h2 := app_loop (body := body) (j := j) (E := E) (g := g) (N := N) L (acc ++ [g i]) (by rw [List.length_append]; show acc.length + 1 + L.length ≤ N; omega) fun k hk => h k (List.mem_cons_of_mem _ hk)
    rw [List.map_cons]
    unfold forL
    show (match (body ((E acc).set j (.int (0 + (i : Int)))) : RS) with | .nx e2 => forL _ _ _ e2 | .ct e2 => forL _ _ _ e2 | .bk e2 => .nx e2 | .rt x e2 => .rt x e2 | .exc x => .exc x | .bad => .bad) = _
    rw [h1]
    dsimp only
    rw [h2, List.append_assoc]
    rfl
theorem range_map (n : Nat) : rangeD 0 (n : Int) = (List.range n).map fun (i : Nat) => PyData.int (0 + (i : Int)) := by
  unfold rangeD
  congr 1
theorem rg1_nat {n : Nat} (h : n ≤ 1000000) : rg1 [.int (n : Int)] = some ((List.range n).map fun (i : Nat) => PyData.int (0 + (i : Int))) := by
  rw [← range_map]
  exact rg1_ok (by omega) (by omega)
theorem lc_range {ml : En → R (List Dt)} {vs : List Nat} {me : En → R Dt} {e : En} {n j : Nat} (g : Nat → Dt) (hn : n ≤ 1000000) (h : ml e = .ok [.int n]) (hs : ∀ i, i < n → me ((wipeE e vs).set j (.int i)) = .ok (g i)) : qLC (iOf rg1 ml) vs (gN j) bYes me e = .ok (.list ((List.range n).map g)) := by
  refine lc_typ (fun (i : Nat) => PyData.int (0 + (i : Int))) (iOf_ok h (rg1_nat hn)) fun i hi => ⟨_, rfl, ?_⟩
  rw [Int.zero_add]
  exact hs i (List.mem_range.mp hi)
theorem item_at {r : List Dt} {t : Nat} (h : t < r.length) : ixD (.tuple r) (.int (t : Int)) = some (r.getD t .none) := by
  show atI r (t : Int) = _
  rw [PL.atI_nat, List.getD_eq_getElem?_getD, List.getElem?_eq_getElem h]
  rfl
theorem lay_ints : ∀ l : List Int, PyData.canLayAll0 (l.map .int) = true ∧ PyData.depthAll (l.map .int) = 0
  | [] => ⟨rfl, rfl⟩
  | i :: l => by
    have := lay_ints l
    exact ⟨by rw [List.map_cons, PyData.canLayAll0, this.1]; rfl, by rw [List.map_cons, PyData.depthAll, this.2]; rfl⟩
theorem eqv_ints : ∀ a b : List Int, PyData.eqvAll (a.map .int) (b.map .int) = decide (a = b)
  | [], [] => rfl
  | [], _ :: _ => rfl
  | _ :: _, [] => rfl
  | x :: a, y :: b => by
    rw [List.map_cons, List.map_cons, PyData.eqvAll, eqv_ints a b]
    show ((x == y) && decide (a = b)) = _
    by_cases h : x = y
    · subst h
      simp
    · rw [beq_eq_false_iff_ne.mpr h, Bool.false_and]
      exact (decide_eq_false (fun z => h (List.cons.inj z).1)).symm
theorem all_tt {mi : En → R (List Dt)} {vs : List Nat} {st : Dt → En → Option En} {me : En → R Dt} {e : En} {ds : List Dt} (h : mi e = .ok ds) (hs : ∀ d ∈ ds, ∃ e1, st d (wipeE e vs) = some e1 ∧ me e1 = .ok (.bool true)) : qC allD (lcons (qLC mi vs st bYes me) lnil) e = .ok (.bool true) := by
  rw [all_of (fun _ => true) h hs, List.all_eq_true.mpr fun _ _ => rfl]
theorem expr_ok {m : En → R Dt} {e : En} {d : Dt} (h : m e = .ok d) : sExpr m e = .nx e := by
  unfold sExpr
  rw [h]
  rfl
theorem expr_exc {m : En → R Dt} {e : En} {x : Ec} (h : m e = .exc x) : sExpr m e = .exc x := by
  unfold sExpr
  rw [h]
  rfl
theorem seq_exc {m n : En → RS} {e : En} {x : Ec} (h : m e = .exc x) : sSeq m n e = .exc x := by
  unfold sSeq
  rw [h]
  rfl
theorem raise_if {c : En → R Bool} {x : Str} {n : En → RS} {e : En} (h : c e = .ok true) : sSeq (sIf c (sSeq (sRaise x) sNx) sNx) n e = .exc ⟨x, .none⟩ := seq_exc ((if_t h).trans (seq_exc rfl))
theorem zip_self : ∀ l : List Dt, zipL l l = l.map fun d => .tuple [d, d]
  | [] => rfl
  | d :: l => by
    have := zip_self l
    unfold zipL at this ⊢
    rw [List.zip_cons_cons, List.map_cons, List.map_cons, this]
theorem fmR_fm {f : Dt → R (Option Dt)} {p : Dt → Bool} {g : Dt → Dt} : ∀ ds : List Dt, (∀ d ∈ ds, f d = .ok (if p d = true then some (g d) else none)) → fmR f ds = .ok ((ds.filter p).map g)
  | [], _ => rfl
  | d :: ds, h => by
    have ih := fmR_fm (f := f) (p := p) (g := g) ds fun d hd => h d (List.mem_cons_of_mem _ hd)
    have h0 := h d (List.mem_cons_self ..)
    unfold fmR
    rw [h0, List.filter_cons]
    by_cases hp : p d = true
    · rw [if_pos hp, if_pos hp]
      dsimp only
      rw [ih]
      rfl
    · rw [if_neg hp, if_neg hp]
      exact ih
theorem lc_fm {mi : En → R (List Dt)} {vs : List Nat} {st : Dt → En → Option En} {mt : En → R Bool} {me : En → R Dt} {e : En} {ds : List Dt} (p : Dt → Bool) (g : Dt → Dt) (h : mi e = .ok ds) (hs : ∀ d ∈ ds, ∃ e1, st d (wipeE e vs) = some e1 ∧ mt e1 = .ok (p d) ∧ me e1 = .ok (g d)) : qLC mi vs st mt me e = .ok (.list ((ds.filter p).map g)) := by
  unfold qLC
  rw [h]
  show (fmR (lcItem st mt me (wipeE e vs)) ds).bind _ = _
  rw [fmR_fm (p := p) (g := g) ds fun d hd => ?_]
  · rfl
  · obtain ⟨e1, h1, h2, h3⟩ := hs d hd
    unfold lcItem
    rw [h1]
    dsimp only
    rw [h2]
    cases hp : p d with
    | true =>
      dsimp only
      rw [h3]
      rfl
    | false => rfl
theorem lay_row : ∀ r : List Dt, (∀ d ∈ r, d = .none ∨ ∃ i : Int, d = .int i) → PyData.canLayAll0 r = true ∧ PyData.depthAll r = 0
  | [], _ => ⟨rfl, rfl⟩
  | d :: r, h => by
    have ih := lay_row r fun d hd => h d (List.mem_cons_of_mem _ hd)
    rw [PyData.canLayAll0, PyData.depthAll, ih.1, ih.2]
    rcases h d (List.mem_cons_self ..) with rfl | ⟨i, rfl⟩ <;> exact ⟨rfl, rfl⟩
theorem in_row {r : List Dt} (h : ∀ d ∈ r, d = .none ∨ ∃ i : Int, d = .int i) (f : Int) : eqOk (.int f) (.tuple r) = true ∧ eqOk (.int f) (.list r) = true := by
  have s := lay_row r h
  constructor
  · unfold eqOk SeqAt.shaped
    simp only [PyData.canLay0, PyData.depth, s.1, s.2]
    rfl
  · unfold eqOk SeqAt.shaped
    simp only [PyData.canLay0, PyData.depth, s.1, s.2]
    rfl
theorem last_ok {S : List Int} (h : 0 < S.length) : ∃ x, ixD (.list (S.map .int)) (.int (-1)) = some (.int x) := by
  show ∃ x, atI (S.map PyData.int) (-1) = _
  have e : atI (S.map PyData.int) (-1) = (S.map PyData.int)[S.length - 1]? := by
    unfold atI
    have e2 : ixN (S.map PyData.int).length (-1) = some (S.length - 1) := by
      rw [List.length_map]
      unfold ixN
      (repeat' split) <;> first | omega | (congr 1; omega) | skip
    rw [e2]
    rfl
  rw [e, List.getElem?_map, List.getElem?_eq_getElem (by omega)]
  exact ⟨_, rfl⟩
theorem lam_ok {mw : R Dt → R Dt} {mb : En → R Dt} {e : En} {r : R Dt} {d : Dt} (h : mb e = r) (hw : mw r = .ok d) : qLam mw mb e = .ok d := by
  unfold qLam
  rw [h, hw]
def opt : Option Int → Dt
  | none => .none
  | some i => .int i
theorem mul_rep (d : Dt) {k : Nat} (h : 1 ≤ k ∧ k ≤ 1000) : mulD (.tuple [d]) (.int k) = some (.tuple (List.replicate k d)) := by
  have fl : ∀ k : Nat, (List.replicate k [d]).flatten = List.replicate k d := fun k => by
    induction k with
    | zero => rfl
    | succ k ih => rw [List.replicate_succ, List.flatten_cons, ih]; rfl
  unfold mulD
  by_cases h2 : 2 ≤ k
  · refine (if_pos ⟨by simp, by omega, by omega, by simp⟩).trans ?_
    rw [Int.toNat_natCast, fl]
  · have : k = 1 := by omega
    subst this
    rfl
theorem cut_len {α : Type} (a : List α) (lo hi : Option Int) : (cutL a lo hi).length ≤ a.length := by
  unfold cutL
  rw [List.length_take, List.length_drop]
  omega
theorem sl_ok {ma : En → R Dt} {ml mh : En → R (Option Int)} {e : En} {d x : Dt} {lo hi : Option Int} (ha : ma e = .ok d) (hl : ml e = .ok lo) (hh : mh e = .ok hi) (h : slT d lo hi = some x) : qSl slT ma ml mh e = .ok x := by
  unfold qSl
  rw [ha, hl, hh]
  show R.ofO (slT d lo hi) = _
  rw [h]
  rfl
theorem oS_ok {m : En → R Dt} {e : En} {i : Int} (h : m e = .ok (.int i)) : oS m e = .ok (some i) := by
  unfold oS
  rw [h]
  rfl
theorem parM2_ok {i j : Nat} {ml : En → R (List Dt × En)} {e e1 : En} {d1 d2 : Dt} (h : ml e = .ok ([d1, d2], e1)) : sParM2 i j ml e = .nx ((e1.set i d1).set j d2) := by
  unfold sParM2
  rw [h]
  rfl
theorem cat_tup (a b : List Dt) (h : a.length + b.length ≤ 1000) : addD (.tuple a) (.tuple b) = some (.tuple (a ++ b)) := if_pos (by rw [sizeLine_eq]; omega)
theorem cat_list (a b : List Dt) (h : a.length + b.length ≤ 1000) : addL (.list a) (.list b) = some (.list (a ++ b)) := by
  unfold addL
  exact if_pos (by rw [sizeLine_eq]; omega)
theorem sum_nn : ∀ l : List Int, (∀ x ∈ l, 0 ≤ x) → 0 ≤ l.sum ∧ (l.sum = 0 → ∀ x ∈ l, x = 0)
  | [], _ => ⟨Int.le_refl _, fun _ x hx => by cases hx⟩
  | y :: l, h => by
    have ih := sum_nn l fun x hx => h x (List.mem_cons_of_mem _ hx)
    have hy := h y (List.mem_cons_self ..)
    rw [List.sum_cons]
    refine ⟨by omega, fun e x hx => ?_⟩
    rcases List.mem_cons.mp hx with rfl | hx
    · omega
    · exact ih.2 (by omega) x hx
end PL
namespace PL
open PySem PySem.Spec L2 VL
/-! ### readings from behind: what is said of the first statement, then of the rest -/
section
variable {i j k : Nat} {m m' n n' m0 : En → RS} {q q1 q2 q3 : En → R Dt} {c : En → R Bool} {e e' e1 e2 : En} {d d1 d2 d3 : Dt} {r : RS} {x : Ec} {b : Bool}
theorem fin_of (h : r = .rt d e') : fin r = .ok d := by rw [h]; rfl
theorem finM_of (h : r = .rt d e') {h' : Dt} (hh : e'.getD 0 .none = h') : finM r = .ok (d, h') := by rw [h, ← hh]; rfl
theorem fin_nx (h : r = .nx e') : fin r = .ok .none := by rw [h]; rfl
theorem fin_ex (h : r = .exc x) : fin r = .exc x := by rw [h]; rfl
theorem s_to (h : m e = .nx e1) (hk : n e1 = r) : sSeq m n e = r := (seq_nx h).trans hk
theorem s_rt (h : m e = .rt d e1) : sSeq m n e = .rt d e1 := seq_rt h
theorem s_ex (h : m e = .exc x) : sSeq m n e = .exc x := seq_exc h
theorem s_set (h : q e = .ok d) (hk : n (e.set i d) = r) : sSeq (sSet i q) n e = r := (seq_nx (set_ok h)).trans hk
theorem s_setX (h : q e = .exc x) : sSeq (sSet i q) n e = .exc x := seq_exc (by unfold sSet; rw [h]; rfl)
theorem s_ret (h : q e = .ok d) : sSeq (sRet q) n e = .rt d e := seq_rt (ret_ok h)
theorem s_retX (h : q e = .exc x) : sSeq (sRet q) n e = .exc x := seq_exc (by unfold sRet; rw [h]; rfl)
theorem s_ift (h : c e = .ok true) (hk : sSeq m n e = r) : sSeq (sIf c m m') n e = r := by
  have : sSeq (sIf c m m') n e = sSeq m n e := by
    show (sIf c m m' e).bind n = (m e).bind n
    rw [if_t h]
  rw [this]; exact hk
theorem s_iff (h : c e = .ok false) (hk : sSeq m' n e = r) : sSeq (sIf c m m') n e = r := by
  have : sSeq (sIf c m m') n e = sSeq m' n e := by
    show (sIf c m m' e).bind n = (m' e).bind n
    rw [if_f h]
  rw [this]; exact hk
theorem s_iffN (h : c e = .ok false) (hk : n e = r) : sSeq (sIf c m sNx) n e = r := (seq_if_f h).trans hk
theorem s_as (h : sSeq m (sSeq m' n) e = r) : sSeq (sSeq m m') n e = r := by
  rw [← h]
  show ((m e).bind m').bind n = (m e).bind fun e => (m' e).bind n
  cases m e <;> rfl
theorem s_nx (h : n e = r) : sSeq sNx n e = r := h
theorem s_iftR (h : c e = .ok true) (hq : q e = .ok d) : sSeq (sIf c (sSeq (sRet q) m) m') n e = .rt d e := seq_rt ((if_t h).trans (s_ret hq))
theorem s_iftX {y : Str} (h : c e = .ok true) : sSeq (sIf c (sSeq (sRaise y) m) m') n e = .exc ⟨y, .none⟩ := seq_exc ((if_t h).trans (seq_exc rfl))
/-- if not c: raise / return, by what c tells -/
theorem s_ifR (h : c e = .ok b) (ht : b = true → ∃ d0 e0, r = .rt d0 e0 ∧ sSeq (sRet q) m e = .rt d0 e0) (hf : b = false → n e = r) : sSeq (sIf c (sSeq (sRet q) m) sNx) n e = r := by
  cases b with
  | true =>
    obtain ⟨d0, e0, h1, h2⟩ := ht rfl
    rw [h1]
    exact seq_rt ((if_t h).trans h2)
  | false => exact s_iffN h (hf rfl)
theorem s_expr (h : q e = .ok d) (hk : n e = r) : sSeq (sExpr q) n e = r := (seq_nx (expr_ok h)).trans hk
theorem s_exprX (h : q e = .exc x) : sSeq (sExpr q) n e = .exc x := seq_exc (expr_exc h)
theorem s_raise {y : Str} : sSeq (sRaise y) n e = .exc ⟨y, .none⟩ := seq_exc rfl
theorem s_kill (h : n (e.set i .none) = r) : sKill i n e = r := h
theorem s_asg {st : Dt → En → Option En} (h : q e = .ok d) (hs : st d e = some e1) (hk : n e1 = r) : sSeq (sAsg st q) n e = r := by
  refine s_to ?_ hk
  unfold sAsg
  rw [h]
  show (match st d e with | some e' => RS.nx e' | none => .bad) = _
  rw [hs]
theorem s_par2 (h1 : q1 e = .ok d1) (h2 : q2 e = .ok d2) (hk : n ((e.set i d1).set j d2) = r) : sSeq (sPar2 i j q1 q2) n e = r := by
  refine s_to ?_ hk
  unfold sPar2
  rw [h1, h2]
  rfl
theorem s_par3 {l : Nat} (h1 : q1 e = .ok d1) (h2 : q2 e = .ok d2) (h3 : q3 e = .ok d3) (hk : n (((e.set i d1).set j d2).set l d3) = r) : sSeq (sPar3 i j l q1 q2 q3) n e = r := by
  refine s_to ?_ hk
  unfold sPar3
  rw [h1, h2, h3]
  rfl
theorem s_for {it : En → R (List Dt)} {st : Dt → En → Option En} {body : En → RS} {ds : List Dt} (h : it e = .ok ds) (hl : forL st body ds e = .nx e1) (hk : n e1 = r) : sSeq (sFor it st body) n e = r := s_to ((sFor_ok h).trans hl) hk
theorem s_forR {it : En → R (List Dt)} {st : Dt → En → Option En} {body : En → RS} {ds : List Dt} (h : it e = .ok ds) (hl : forL st body ds e = .rt d e1) : sSeq (sFor it st body) n e = .rt d e1 := s_rt ((sFor_ok h).trans hl)
theorem s_forX {it : En → R (List Dt)} {st : Dt → En → Option En} {body : En → RS} {ds : List Dt} (h : it e = .ok ds) (hl : forL st body ds e = .exc x) : sSeq (sFor it st body) n e = .exc x := s_ex ((sFor_ok h).trans hl)
/-! with draws -/
variable {mm : En → R (Dt × En)} {cm : En → R (Bool × En)}
theorem s_setM (h : mm e = .ok (d, e1)) (hk : n (e1.set i d) = r) : sSeq (sSetM i mm) n e = r := s_to (setM_ok h) hk
theorem s_retM (h : mm e = .ok (d, e1)) : sSeq (sRetM mm) n e = .rt d e1 := s_rt (retM_ok h)
theorem s_asgM {st : Dt → En → Option En} (h : mm e = .ok (d, e1)) (hs : st d e1 = some e2) (hk : n e2 = r) : sSeq (sAsgM st mm) n e = r := s_to (asgM_ok h hs) hk
theorem s_parM2 {ml : En → R (List Dt × En)} (h : ml e = .ok ([d1, d2], e1)) (hk : n ((e1.set i d1).set j d2) = r) : sSeq (sParM2 i j ml) n e = r := s_to (parM2_ok h) hk
theorem s_parM3 {l : Nat} {ml : En → R (List Dt × En)} (h : ml e = .ok ([d1, d2, d3], e1)) (hk : n (((e1.set i d1).set j d2).set l d3) = r) : sSeq (sParM3 i j l ml) n e = r := s_to (by unfold sParM3; rw [h]; rfl) hk
theorem s_exprM (h : mm e = .ok (d, e1)) (hk : n e1 = r) : sSeq (sExprM mm) n e = r := s_to (by unfold sExprM; rw [h]; rfl) hk
theorem s_ifMt (h : cm e = .ok (true, e1)) (hk : sSeq m n e1 = r) : sSeq (sIfM cm m m') n e = r := by
  have : sSeq (sIfM cm m m') n e = sSeq m n e1 := by
    show (sIfM cm m m' e).bind n = (m e1).bind n
    rw [ifM_t h]
  rw [this]; exact hk
theorem s_ifMf (h : cm e = .ok (false, e1)) (hk : sSeq m' n e1 = r) : sSeq (sIfM cm m m') n e = r := by
  have : sSeq (sIfM cm m m') n e = sSeq m' n e1 := by
    show (sIfM cm m m' e).bind n = (m' e1).bind n
    rw [ifM_f h]
  rw [this]; exact hk
theorem s_forM {it : En → R (List Dt × En)} {st : Dt → En → Option En} {body : En → RS} {ds : List Dt} (h : it e = .ok (ds, e2)) (hl : forL st body ds e2 = .nx e1) (hk : n e1 = r) : sSeq (sForM it st body) n e = r := s_to (by unfold sForM; rw [h]; exact hl) hk
theorem s_app {ds : List Dt} (h : mm e = .ok (d, e1)) (hd : e1.getD i .none = .list ds) (hl : isL (e.getD i .none) = true) (hn : ds.length < sizeLine) (hk : n (e1.set i (.list (ds ++ [d]))) = r) : sSeq (sMut appD i mm) n e = r := s_to (mut_app hl h hd hn) hk
theorem mut_ext {ds es : List Dt} (hl : isL (e.getD i .none) = true) (h : mm e = .ok (.list es, e1)) (hd : e1.getD i .none = .list ds) (hn : ds.length + es.length ≤ sizeLine) : sMut extD i mm e = .nx (e1.set i (.list (ds ++ es))) := by
  unfold sMut
  rw [if_pos hl, h]
  show (match extD (e1.getD i .none) (.list es) with
    | some d' => RS.nx (e1.set i d')
    | none => RS.bad) = _
  rw [hd]
  show (match (if ds.length + es.length ≤ sizeLine then some (PyData.list (ds ++ es)) else none) with
    | some d' => RS.nx (e1.set i d')
    | none => RS.bad) = _
  rw [if_pos hn]
theorem s_ext {ds es : List Dt} (h : mm e = .ok (.list es, e1)) (hd : e1.getD i .none = .list ds) (hl : isL (e.getD i .none) = true) (hn : ds.length + es.length ≤ sizeLine) (hk : n (e1.set i (.list (ds ++ es))) = r) : sSeq (sMut extD i mm) n e = r := s_to (mut_ext hl h hd hn) hk
theorem pop_ok {ds : List Dt} (h : e.getD i .none = .list (ds ++ [d])) : mPop i e = .ok (d, e.set i (.list ds)) := by
  unfold mPop
  rw [h]
  dsimp only
  rw [List.getLast?_concat]
  dsimp only
  rw [List.dropLast_concat]
theorem s_augN {g : Int → Int → Int} {a b : Int} (ha : e.getD i .none = .int a) (h : q e = .ok (.int b)) (hk : n (e.set i (.int (g a b))) = r) : sSeq (sAugN g i q) n e = r := by
  refine s_to ?_ hk
  unfold sAugN
  rw [h, ha]
  rfl
theorem s_augS {g : Int → Int → Int} {a b : Int} {ds : List Dt} {t : Nat} (hl : e.getD i .none = .list ds) (hj : q1 e = .ok (.int t)) (ha : ds[t]? = some (.int a)) (h : q e = .ok (.int b)) (hk : n (e.set i (.list (ds.set t (.int (g a b))))) = r) : sSeq (sAugS g i q1 q) n e = r := by
  refine s_to ?_ hk
  have ht : t < ds.length := (List.getElem?_eq_some_iff.mp ha).1
  unfold sAugS
  rw [hj, hl]
  have i1 : ixD (.list ds) (.int t) = some (.int a) := by
    show atI ds (t : Int) = _
    rw [PL.atI_nat, ha]
  have i2 : stoD (.list ds) (.int t) (.int (g a b)) = some (.list (ds.set t (.int (g a b)))) := by
    show ((ixN ds.length (t : Int)).map fun j => PyData.list (ds.set j (.int (g a b)))) = _
    unfold ixN
    rw [if_pos (by omega), if_pos (by omega)]
    rfl
  show (match ixD (.list ds) (.int t) with
    | some x => RS.ofR (q e) fun y => match augI g x y with
      | some z => match stoD (.list ds) (.int t) z with
        | some d' => RS.nx (e.set i d')
        | none => .bad
      | none => .bad
    | none => .bad) = _
  rw [i1]
  dsimp only
  rw [h]
  show (match stoD (.list ds) (.int t) (.int (g a b)) with
        | some d' => RS.nx (e.set i d')
        | none => .bad) = _
  rw [i2]
/-! while -/
theorem s_while {body : En → RS} {f : Nat} (hl : whileL c body f e = .nx e1) (hk : n e1 = r) : sSeq (whileL c body f) n e = r := s_to hl hk
theorem while_f {body : En → RS} {f : Nat} (h : c e = .ok false) : whileL c body (f + 1) e = .nx e := by
  unfold whileL
  rw [h]
theorem while_t {body : En → RS} {f : Nat} (h : c e = .ok true) (hb : body e = .nx e1) (hk : whileL c body f e1 = r) : whileL c body (f + 1) e = r := by
  unfold whileL
  rw [h]
  dsimp only
  rw [hb]
  exact hk
theorem while_rt {body : En → RS} {f : Nat} (h : c e = .ok true) (hb : body e = .rt d e1) : whileL c body (f + 1) e = .rt d e1 := by
  unfold whileL
  rw [h]
  dsimp only
  rw [hb]
/-! for -/
variable {st : Dt → En → Option En} {body : En → RS} {ds : List Dt}
theorem for_nil : forL st body [] e = .nx e := rfl
theorem for_cons (h : st d e = some e1) (hb : body e1 = .nx e2) (hk : forL st body ds e2 = r) : forL st body (d :: ds) e = r := by
  rw [forL, h]
  dsimp only
  rw [hb]
  exact hk
theorem for_rt (h : st d e = some e1) (hb : body e1 = .rt d1 e2) : forL st body (d :: ds) e = .rt d1 e2 := by
  rw [forL, h]
  dsimp only
  rw [hb]
theorem for_bk (h : st d e = some e1) (hb : body e1 = .bk e2) : forL st body (d :: ds) e = .nx e2 := by
  rw [forL, h]
  dsimp only
  rw [hb]
/-- a loop over xs that changes a state: F s is the environment of s -/
theorem for_fold {α σ : Type} {D : α → Dt} {F : σ → En} {g : σ → α → σ} {I : σ → Prop} : ∀ (xs : List α) (s : σ), I s → (∀ x ∈ xs, ∀ s, I s → I (g s x) ∧ ∃ e1, st (D x) (F s) = some e1 ∧ body e1 = .nx (F (g s x))) → forL st body (xs.map D) (F s) = .nx (F (xs.foldl g s))
  | [], s, _, _ => rfl
  | x :: xs, s, hs, h => by
    obtain ⟨h1, e1, h2, h3⟩ := h x (List.mem_cons_self ..) s hs
    exact for_cons h2 h3 (for_fold xs (g s x) h1 fun y hy => h y (List.mem_cons_of_mem _ hy))
/-- a loop that returns d0 at the first x of which p is false, else changes nothing -/
theorem for_all {α : Type} {D : α → Dt} {p : α → Bool} {d0 : Dt} : ∀ (xs : List α), (∀ x ∈ xs, ∃ e1, st (D x) e = some e1 ∧ if p x = true then body e1 = .nx e else ∃ e2, body e1 = .rt d0 e2) → if xs.all p = true then forL st body (xs.map D) e = .nx e else ∃ e2, forL st body (xs.map D) e = .rt d0 e2
  | [], _ => rfl
  | x :: xs, h => by
    obtain ⟨e1, h1, h2⟩ := h x (List.mem_cons_self ..)
    have ih := for_all xs fun y hy => h y (List.mem_cons_of_mem _ hy)
    rw [List.all_cons]
    cases hp : p x with
    | true =>
      rw [if_pos hp] at h2
      rw [Bool.true_and]
      split
      · rename_i ha
        rw [if_pos ha] at ih
        exact for_cons h1 h2 ih
      · rename_i ha
        rw [if_neg ha] at ih
        obtain ⟨e2, ih⟩ := ih
        exact ⟨e2, for_cons h1 h2 ih⟩
    | false =>
      rw [if_neg (by rw [hp]; exact Bool.false_ne_true)] at h2
      obtain ⟨e2, h2⟩ := h2
      rw [Bool.false_and, if_neg Bool.false_ne_true]
      exact ⟨e2, for_rt h1 h2⟩
end
end PL
namespace PL
open PySem PySem.Spec L2 VL
section
variable {e : En} {st : Dt → En → Option En} {body : En → RS}
/-- the same, the turns counted -/
theorem for_foldN {α σ : Type} {D : α → Dt} {F : σ → En} {g : σ → α → σ} {I : Nat → σ → Prop} {N : Nat} : ∀ (xs : List α) (s : σ) (k : Nat), k + xs.length ≤ N → I k s → (∀ x ∈ xs, ∀ s k, k < N → I k s → I (k + 1) (g s x) ∧ ∃ e1, st (D x) (F s) = some e1 ∧ body e1 = .nx (F (g s x))) → forL st body (xs.map D) (F s) = .nx (F (xs.foldl g s)) ∧ I (k + xs.length) (xs.foldl g s)
  | [], s, k, _, hs, _ => ⟨rfl, hs⟩
  | x :: xs, s, k, hn, hs, h => by
    rw [List.length_cons] at hn
    obtain ⟨h1, e1, h2, h3⟩ := h x (List.mem_cons_self ..) s k (by omega) hs
    obtain ⟨i1, i2⟩ := for_foldN xs (g s x) (k + 1) (by omega) h1 fun y hy => h y (List.mem_cons_of_mem _ hy)
    refine ⟨for_cons h2 h3 i1, ?_⟩
    rw [List.length_cons, Nat.add_comm xs.length 1, ← Nat.add_assoc]
    exact i2
theorem foldl_app {α β : Type} (f : α → List β) : ∀ (xs : List α) (acc : List β), xs.foldl (fun acc x => acc ++ f x) acc = acc ++ xs.flatMap f
  | [], acc => by simp
  | x :: xs, acc => by rw [List.foldl_cons, foldl_app f xs, List.flatMap_cons, List.append_assoc]
end
/-- enumerate of a list that stands for xs -/
theorem enum_map {α : Type} (D : α → Dt) (xs : List α) : enumL (xs.map D) = (List.range xs.length).map fun (i : Nat) => PyData.tuple [.int (i : Nat), (xs.map D).getD i .none] := by
  unfold enumL
  rw [List.length_map]
end PL
namespace PL
open PySem PySem.Spec L2 VL
section
variable {e : En} {st : Dt → En → Option En} {body : En → RS}
/-- a loop that returns d0 at the first x of which p is false, else goes on with a changed state -/
theorem for_allN {α σ : Type} {D : α → Dt} {F : σ → En} {g : σ → α → σ} {p : α → Bool} {d0 : Dt} {I : Nat → σ → Prop} {N : Nat} : ∀ (xs : List α) (s : σ) (k : Nat), k + xs.length ≤ N → I k s →
    (∀ x ∈ xs, ∀ s k, k < N → I k s → ∃ e1, st (D x) (F s) = some e1 ∧ if p x = true then body e1 = .nx (F (g s x)) ∧ I (k + 1) (g s x) else ∃ e2, body e1 = .rt d0 e2) →
    if xs.all p = true then forL st body (xs.map D) (F s) = .nx (F (xs.foldl g s)) ∧ I (k + xs.length) (xs.foldl g s) else ∃ e2, forL st body (xs.map D) (F s) = .rt d0 e2
  | [], s, k, _, hs, _ => ⟨rfl, hs⟩
  | x :: xs, s, k, hn, hs, h => by
    rw [List.length_cons] at hn
    obtain ⟨e1, h1, h2⟩ := h x (List.mem_cons_self ..) s k (by omega) hs
    rw [List.all_cons]
    cases hp : p x with
    | false =>
      rw [if_neg (by rw [hp]; exact Bool.false_ne_true)] at h2
      obtain ⟨e2, h2⟩ := h2
      rw [Bool.false_and, if_neg Bool.false_ne_true]
      exact ⟨e2, for_rt h1 h2⟩
    | true =>
      rw [if_pos hp] at h2
      have ih := for_allN xs (g s x) (k + 1) (by omega) h2.2 fun y hy => h y (List.mem_cons_of_mem _ hy)
      rw [Bool.true_and]
      split
      · rename_i ha
        rw [if_pos ha] at ih
        refine ⟨for_cons h1 h2.1 ih.1, ?_⟩
        rw [List.length_cons, Nat.add_comm xs.length 1, ← Nat.add_assoc]
        exact ih.2
      · rename_i ha
        rw [if_neg ha] at ih
        obtain ⟨e2, ih⟩ := ih
        exact ⟨e2, for_cons h1 h2.1 ih⟩
end
theorem sIx_nat {n d k : Nat} (h : d ≤ n) : HT.sIx n k (some (d : Int)) = d := by
  unfold HT.sIx
  first
    | (simp; omega)
    | (dsimp only; rw [if_neg (by omega)]; omega)
theorem cut_to {α : Type} (l : List α) {d : Nat} (h : d ≤ l.length) : cutL l none (some (d : Int)) = l.take d := by
  unfold cutL
  rw [sIx_nat h]
  show (l.drop 0).take (d - 0) = _
  rw [List.drop_zero, Nat.sub_zero]
theorem cut_from {α : Type} (l : List α) {d : Nat} (h : d ≤ l.length) : cutL l (some (d : Int)) none = l.drop d := by
  unfold cutL
  rw [sIx_nat h]
  show (l.drop d).take (l.length - d) = _
  rw [List.take_of_length_le (by rw [List.length_drop]; exact Nat.le_refl _)]
theorem set_cut {α : Type} : ∀ (l : List α) (d : Nat) (x : α), d < l.length → l.take d ++ [x] ++ l.drop (d + 1) = l.set d x
  | [], d, x, h => by simp at h
  | y :: l, 0, x, h => rfl
  | y :: l, d + 1, x, h => by
    rw [List.length_cons] at h
    show y :: (l.take d ++ [x] ++ l.drop (d + 1)) = y :: l.set d x
    rw [set_cut l d x (by omega)]
end PL
namespace PL
theorem flatMap_one {α β : Type} (f : α → β) : ∀ l : List α, l.flatMap (fun x => [f x]) = l.map f
  | [] => rfl
  | x :: l => by rw [List.flatMap_cons, List.map_cons, flatMap_one f l]; rfl
end PL
namespace PL
open PySem PySem.Spec L2 VL
/-! ### things without dicts, not too deep -/
structure Shp (k : Nat) (d : Dt) : Prop where
  lay : d.canLay0 = true
  dp : d.depth ≤ k
theorem Shp.mono {k j : Nat} {d : Dt} (h : Shp k d) (hk : k ≤ j) : Shp j d := ⟨h.lay, Nat.le_trans h.dp hk⟩
theorem shp_all {k : Nat} : ∀ ds : List Dt, (∀ d ∈ ds, Shp k d) → PyData.canLayAll0 ds = true ∧ PyData.depthAll ds ≤ k
  | [], _ => ⟨rfl, Nat.zero_le _⟩
  | d :: ds, h => by
    obtain ⟨h1, h2⟩ := shp_all ds fun x hx => h x (List.mem_cons_of_mem _ hx)
    have h0 := h d (List.mem_cons_self ..)
    refine ⟨?_, ?_⟩
    · show (d.canLay0 && PyData.canLayAll0 ds) = true
      rw [h0.lay, h1]; rfl
    · show max d.depth (PyData.depthAll ds) ≤ k
      exact Nat.max_le.mpr ⟨h0.dp, h2⟩
theorem shp_mem0 {k : Nat} : ∀ ds : List Dt, PyData.canLayAll0 ds = true → PyData.depthAll ds ≤ k → ∀ d ∈ ds, Shp k d
  | [], _, _, _, h => by cases h
  | x :: ds, h1, h2, d, h => by
    have h1 : (x.canLay0 && PyData.canLayAll0 ds) = true := h1
    have h2 : max x.depth (PyData.depthAll ds) ≤ k := h2
    rw [Bool.and_eq_true] at h1
    have h3 := Nat.max_le.mp h2
    rcases List.mem_cons.mp h with rfl | h
    · exact ⟨h1.1, h3.1⟩
    · exact shp_mem0 ds h1.2 h3.2 d h
theorem shp_tup {k : Nat} {ds : List Dt} (h : ∀ d ∈ ds, Shp k d) : Shp (k + 1) (.tuple ds) := ⟨(shp_all ds h).1, Nat.succ_le_succ (shp_all ds h).2⟩
theorem shp_lst {k : Nat} {ds : List Dt} (h : ∀ d ∈ ds, Shp k d) : Shp (k + 1) (.list ds) := ⟨(shp_all ds h).1, Nat.succ_le_succ (shp_all ds h).2⟩
theorem shp_mem {k : Nat} {ds : List Dt} (h : Shp (k + 1) (.tuple ds)) : ∀ d ∈ ds, Shp k d := shp_mem0 ds h.lay (Nat.le_of_succ_le_succ h.dp)
theorem shp_memL {k : Nat} {ds : List Dt} (h : Shp (k + 1) (.list ds)) : ∀ d ∈ ds, Shp k d := shp_mem0 ds h.lay (Nat.le_of_succ_le_succ h.dp)
theorem shp_int {k : Nat} (i : Int) : Shp k (.int i) := ⟨rfl, Nat.zero_le _⟩
theorem shp_none {k : Nat} : Shp k .none := ⟨rfl, Nat.zero_le _⟩
theorem shp_bool {k : Nat} (b : Bool) : Shp k (.bool b) := ⟨rfl, Nat.zero_le _⟩
theorem Shp.ok {d : Dt} (h : Shp 64 d) : SeqAt.shaped d = true := by
  unfold SeqAt.shaped
  rw [h.lay, decide_eq_true h.dp]
  rfl
theorem eqOk_shp {d e : Dt} (h : Shp 64 d) (k : Shp 64 e) : eqOk d e = true := by
  unfold eqOk
  rw [h.ok, k.ok]
  rfl
theorem eq_shp {d e : Dt} (h : Shp 64 d) (k : Shp 64 e) : eqD d e = some (.bool (PyData.eqv d e)) := if_pos (eqOk_shp h k)
theorem ne_shp {d e : Dt} (h : Shp 64 d) (k : Shp 64 e) : neD d e = some (.bool (!PyData.eqv d e)) := if_pos (eqOk_shp h k)
theorem ne_nil {ds : List Dt} (h : ∀ d ∈ ds, Shp 63 d) : neD (.list ds) (.list []) = some (.bool (!ds.isEmpty)) := by
  rw [ne_shp (shp_lst h) (shp_lst fun d hd => by cases hd)]
  cases ds <;> rfl
theorem eq_nil {ds : List Dt} (h : ∀ d ∈ ds, Shp 63 d) : eqD (.list ds) (.list []) = some (.bool ds.isEmpty) := by
  rw [eq_shp (shp_lst h) (shp_lst fun d hd => by cases hd)]
  cases ds <;> rfl
end PL
namespace PL
open PySem PySem.Spec L2 VL
section
variable {f : List Dt → R Dt} {a b c d : En → R Dt} {e : En} {w x y z : Dt} {r : R Dt}
theorem qF1 (ha : a e = .ok w) (h : f [w] = r) : qF f (lcons a lnil) e = r := qF_ok (lcons_ok ha (lnil_ok _)) h
theorem qF2 (ha : a e = .ok w) (hb : b e = .ok x) (h : f [w, x] = r) : qF f (lcons a (lcons b lnil)) e = r := qF_ok (lcons_ok ha (lcons_ok hb (lnil_ok _))) h
theorem qF3 (ha : a e = .ok w) (hb : b e = .ok x) (hc : c e = .ok y) (h : f [w, x, y] = r) : qF f (lcons a (lcons b (lcons c lnil))) e = r := qF_ok (lcons_ok ha (lcons_ok hb (lcons_ok hc (lnil_ok _)))) h
theorem qF4 (ha : a e = .ok w) (hb : b e = .ok x) (hc : c e = .ok y) (hd : d e = .ok z) (h : f [w, x, y, z] = r) : qF f (lcons a (lcons b (lcons c (lcons d lnil)))) e = r := qF_ok (lcons_ok ha (lcons_ok hb (lcons_ok hc (lcons_ok hd (lnil_ok _))))) h
theorem qT1 {p : Bool} (ha : a e = .ok w) (h : f [w] = .ok (.bool p)) : qT (qF f (lcons a lnil)) e = .ok p := qT_ok (qF1 ha h)
theorem qT2 {p : Bool} (ha : a e = .ok w) (hb : b e = .ok x) (h : f [w, x] = .ok (.bool p)) : qT (qF f (lcons a (lcons b lnil))) e = .ok p := qT_ok (qF2 ha hb h)
theorem qT3 {p : Bool} (ha : a e = .ok w) (hb : b e = .ok x) (hc : c e = .ok y) (h : f [w, x, y] = .ok (.bool p)) : qT (qF f (lcons a (lcons b (lcons c lnil)))) e = .ok p := qT_ok (qF3 ha hb hc h)
theorem qT4 {p : Bool} (ha : a e = .ok w) (hb : b e = .ok x) (hc : c e = .ok y) (hd : d e = .ok z) (h : f [w, x, y, z] = .ok (.bool p)) : qT (qF f (lcons a (lcons b (lcons c (lcons d lnil))))) e = .ok p := qT_ok (qF4 ha hb hc hd h)
end
end PL
namespace PL
open PySem PySem.Spec L2 VL
/-! ### small things -/
structure Sz (k w : Nat) (d : Dt) : Prop where
  sm : sm d = true
  dp : d.depth ≤ k
  wt : d.weight ≤ w
theorem Sz.mono {k w k' w' : Nat} {d : Dt} (h : Sz k w d) (h1 : k ≤ k') (h2 : w ≤ w') : Sz k' w' d := ⟨h.sm, Nat.le_trans h.dp h1, Nat.le_trans h.wt h2⟩
theorem Sz.tx {k w : Nat} {d : Dt} (h : Sz k w d) (h1 : k ≤ 60) (h2 : w ≤ 2 ^ 20) : Tx d := ⟨h.sm, Nat.le_trans h.dp h1, Nat.le_trans h.wt h2⟩
theorem Sz.shp {k w : Nat} {d : Dt} (h : Sz k w d) : Shp k d := ⟨(sm_ok d h.sm).1, h.dp⟩
theorem sz_all {k w : Nat} : ∀ (ds : List Dt) (n : Nat), (∀ d ∈ ds, Sz k w d) → ds.length ≤ n → smAll ds = true ∧ PyData.depthAll ds ≤ k ∧ PyData.weightAll ds ≤ n * (w + 1)
  | [], n, _, _ => ⟨rfl, Nat.zero_le _, Nat.zero_le _⟩
  | d :: ds, 0, _, h => by simp at h
  | d :: ds, n + 1, h, hl => by
    rw [List.length_cons] at hl
    obtain ⟨h1, h2, h3⟩ := sz_all ds n (fun x hx => h x (List.mem_cons_of_mem _ hx)) (by omega)
    have h0 := h d (List.mem_cons_self ..)
    refine ⟨?_, ?_, ?_⟩
    · show (sm d && smAll ds) = true
      rw [h0.sm, h1]; rfl
    · show max d.depth (PyData.depthAll ds) ≤ k
      exact Nat.max_le.mpr ⟨h0.dp, h2⟩
    · show d.weight + 1 + PyData.weightAll ds ≤ _
      have := h0.wt
      rw [Nat.add_mul]
      omega
theorem sz_tup {k w n : Nat} {ds : List Dt} (h : ∀ d ∈ ds, Sz k w d) (hl : ds.length ≤ n) : Sz (k + 1) (n * (w + 1)) (.tuple ds) := by
  obtain ⟨h1, h2, h3⟩ := sz_all ds n h hl
  exact ⟨h1, Nat.succ_le_succ h2, h3⟩
theorem sz_lst {k w n : Nat} {ds : List Dt} (h : ∀ d ∈ ds, Sz k w d) (hl : ds.length ≤ n) : Sz (k + 1) (n * (w + 1)) (.list ds) := by
  obtain ⟨h1, h2, h3⟩ := sz_all ds n h hl
  exact ⟨h1, Nat.succ_le_succ h2, h3⟩
theorem sz_none {k w : Nat} : Sz k w .none := ⟨rfl, Nat.zero_le _, Nat.zero_le _⟩
theorem sz_bool {k w : Nat} (b : Bool) : Sz k w (.bool b) := ⟨rfl, Nat.zero_le _, Nat.zero_le _⟩
theorem sz_int {k w : Nat} {i : Int} (h : i.natAbs < 10 ^ 12) (hw : 41 ≤ w) : Sz k w (.int i) := ⟨decide_eq_true h, Nat.zero_le _, Nat.le_trans (w_int h) hw⟩
theorem sz_str (s : String) {k w : Nat} (hw : (Str.ofString s).cps.size ≤ w) : Sz k w (.str s) := ⟨sm_str s, Nat.zero_le _, hw⟩
/-! ### texts, sign by sign -/
def cl (x : Str) : List Nat := x.cps.toList
theorem cl_app (x y : Str) : cl (x ++ y) = cl x ++ cl y := by
  show (x.cps ++ y.cps).toList = _
  rw [Array.toList_append]
  rfl
theorem cl_inj {x y : Str} (h : cl x = cl y) : x = y := by
  cases x; cases y
  exact congrArg _ (Array.toList_inj.mp h)
theorem shown_len : ∀ ds : List Dt, (PyData.shownAll ds).length = ds.length
  | [] => by simp [PyData.shownAll]
  | d :: ds => by simp [PyData.shownAll, shown_len ds]
theorem cl_tup (ds : List Dt) : cl (PyData.tuple ds).shown = 40 :: (cl (Str.join ", " (PyData.shownAll ds)) ++ (if ds.length = 1 then [44, 41] else [41])) := by
  have e : (PyData.tuple ds).shown = tupleText (PyData.shownAll ds) := by simp only [PyData.shown]
  have el : (PyData.shownAll ds).length = ds.length := shown_len ds
  rw [e]
  unfold tupleText
  rw [cl_app, cl_app, el, show cl ("(" : Str) = [40] from by kernel_rfl]
  rw [List.append_assoc]
  by_cases h : ds.length = 1
  · rw [if_pos h, if_pos (by rw [h]; rfl), show cl (((",)" : String) : Str)) = [44, 41] from by kernel_rfl]
    rfl
  · rw [if_neg h, if_neg (by intro z; exact h (eq_of_beq z)), show cl (((")" : String) : Str)) = [41] from by kernel_rfl]
    rfl
theorem cl_join (t u : Str) (ts : List Str) : cl (Str.join ", " (t :: u :: ts)) = cl t ++ (44 :: 32 :: cl (Str.join ", " (u :: ts))) := by
  show cl (t ++ ", " ++ Str.join ", " (u :: ts)) = _
  rw [cl_app, cl_app, show cl (((", " : String) : Str)) = [44, 32] from by kernel_rfl, List.append_assoc]
  rfl
theorem cl_join1 (t : Str) : cl (Str.join ", " [t]) = cl t := rfl
theorem cl_head (t : Str) (ts : List Str) : ∃ r, cl (Str.join ", " (t :: ts)) = cl t ++ r := by
  cases ts with
  | nil => exact ⟨[], (List.append_nil _).symm⟩
  | cons u ts => exact ⟨_, cl_join t u ts⟩
theorem cl_none : cl (PyData.none).shown = [78, 111, 110, 101] := by kernel_rfl
theorem cl_lst (ds : List Dt) : ∃ r, cl (PyData.list ds).shown = 91 :: r := by
  have e : (PyData.list ds).shown = listText (PyData.shownAll ds) := by simp only [PyData.shown]
  have key : ∀ (ts : List Str) (k : Nat) (acc : Str), (∃ r, cl acc = 91 :: r) → ∃ r, cl (textFrom k acc ts) = 91 :: r := by
    intro ts
    induction ts with
    | nil => exact fun _ _ h => h
    | cons t ts ih =>
      intro k acc ⟨r, hr⟩
      unfold textFrom
      refine ih _ _ ?_
      rw [cl_app, cl_app, hr]
      exact ⟨_, rfl⟩
  rw [e]
  unfold listText
  obtain ⟨r, hr⟩ := key (PyData.shownAll ds) 0 "[" ⟨[], by kernel_rfl⟩
  rw [cl_app, hr]
  exact ⟨_, rfl⟩
end PL
namespace PL
open PySem PySem.Spec L2 VL
section
variable {c : En → R Bool} {a b : En → R Dt} {e : En} {r : R Dt}
theorem qIf_t (h : c e = .ok true) (k : a e = r) : qIf c a b e = r := by
  unfold qIf
  rw [h]
  exact k
theorem qIf_f (h : c e = .ok false) (k : b e = r) : qIf c a b e = r := by
  unfold qIf
  rw [h]
  exact k
theorem qT_all {mi : En → R (List Dt)} {vs : List Nat} {st : Dt → En → Option En} {me : En → R Dt} {ds : List Dt} {k : Bool} (p : Dt → Bool) (h : mi e = .ok ds) (hs : ∀ d ∈ ds, ∃ e1, st d (wipeE e vs) = some e1 ∧ me e1 = .ok (.bool (p d))) (hk : ds.all p = k) : qT (qC allD (lcons (qLC mi vs st bYes me) lnil)) e = .ok k := by
  rw [← hk]
  exact qT_ok (all_of p h hs)
end
end PL
namespace PL
open PySem PySem.Spec L2 VL
/-! ### draws, mixed in any way -/
def b_takeG (mx : En → R Dt) : En → RS := (sIf (bAnd (qT (q2 eqD (qIxV 0 (qc (.int 2))) (qc (.int 0)))) (qT (q2 ltD (qIxV 0 (qc (.int 1))) (qC lenD (lcons (qIxV 0 (qc (.int 0))) lnil))))) (sSeq (sSet 2 (q2 ixD (qIxV 0 (qc (.int 0))) (qIxV 0 (qc (.int 1)))))
  (sSeq (sSto 0 (mQ (q2 addD (qIxV 0 (qc (.int 1))) (qc (.int 1)))) (qc (.int 1)))
  (sSeq (sSto 0 (mQ mx) (qc (.int 3)))
  (sSeq (sIf (qT (q2 geD (qv 2) (q2 powD (qc (.int 10)) (qc (.int 18))))) (sSeq (sSto 0 (mQ (qv 2)) (qc (.int 2)))
  sNx) sNx)
  (sKill 2 sNx))))) sNx)
def b_restG (k1 k2 : Int) : En → RS := (sSeq (sIf (qT (q2 gtD (qIxV 0 (qc (.int 2))) (qc (.int 0)))) (sSeq (sSet 3 (q2 modD (qC intD (lcons (qIxV 0 (qc (.int 2))) lnil)) (qv 1)))
  (sSeq (sSto 0 (mQ (q2 fdvD (qIxV 0 (qc (.int 2))) (qv 1))) (qc (.int 2)))
  (sSeq (sRet (qv 3))
  sNx))) sNx)
  (sSeq (sSto 0 (mQ (q2 addD (qIxV 0 (qc (.int 4))) (qc (.int 1)))) (qc (.int 4)))
  (sSeq (sSet 4 (q2 modD (qC intD (lcons (q2 mulD (qC intD (lcons (q2 addD (qIxV 0 (qc (.int 3))) (q2 mulD (qc (.int 7919)) (qIxV 0 (qc (.int 4))))) lnil)) (qc (.int 48271))) lnil)) (qc (.int 2147483647))))
  (sSeq (sSet 4 (q2 modD (qC intD (lcons (q2 mulD (qv 4) (q2 addD (q2 fdvD (qv 4) (qc (.int 1009))) (qc (.int 69621)))) lnil)) (qc (.int 2147483647))))
  (sSeq (sSet 4 (q2 modD (qC intD (lcons (q2 mulD (qv 4) (q2 addD (q2 fdvD (qv 4) (qc (.int 2003))) (qc (.int k1)))) lnil)) (qc (.int k2))))
  (sSeq (sRet (q2 modD (qC intD (lcons (q2 fdvD (qv 4) (qc (.int 16))) lnil)) (qv 1)))
  sNx))))))
def m_drawG (mx : En → R Dt) (k1 k2 : Int) (d0 : Dt) (ds : List Dt) : R (Dt × Dt) := finM (sSeq (b_takeG mx) (b_restG k1 k2) (ioE d0 ds 3))
def Mx (mx : En → R Dt) : Prop := ∀ (cs : List Int) (i x y z b c : Int), ∃ v, mx [hd cs i x y z, .int b, .int c, .none, .none] = .ok (.int v)
theorem takeG {mx : En → R Dt} (hm : Mx mx) {h : Dt} (ok : HandOk h) (b : Int) : ∃ h', HandOk h' ∧ b_takeG mx [h, .int b, .none, .none, .none] = .nx [h', .int b, .none, .none, .none] := by
  obtain ⟨cs, i, x, y, z, rfl, h1, h2, h3⟩ := ok
  by_cases hx : x = 0
  · by_cases hi : i < cs.length
    · subst hx
      have hlt : i.toNat < cs.length := by omega
      obtain ⟨c, hc⟩ : ∃ c, cs[i.toNat]? = some c := ⟨_, List.getElem?_eq_getElem hlt⟩
      have hc0 : 0 ≤ c := h1 c (List.mem_of_getElem? hc)
      obtain ⟨v, hv⟩ := hm cs (i + 1) 0 y z b c
      have e0 : (bAnd (qT (q2 eqD (qIxV 0 (qc (.int 2))) (qc (.int 0)))) (qT (q2 ltD (qIxV 0 (qc (.int 1))) (qC lenD (lcons (qIxV 0 (qc (.int 0))) lnil))))) [hd cs i 0 y z, .int b, .none, .none, .none] = .ok true := by
        rw [bAnd_t (qT_ok (b := true) (q2_ok (ix_h2 ..) rfl (eqD_int 0 0)))]
        refine qT_ok (q2_ok (ix_h1 ..) (qC1_ok (ix_h0 ..) (len_list _)) ?_)
        rw [lt_int, List.length_map, decide_eq_true hi]
      have e1 : q2 ixD (qIxV 0 (qc (.int 0))) (qIxV 0 (qc (.int 1))) [hd cs i 0 y z, .int b, .none, .none, .none] = .ok (.int c) := by
        refine q2_ok (ix_h0 ..) (ix_h1 ..) ?_
        show atI _ _ = _
        rw [atI_of h2, List.getElem?_map, hc]
        rfl
      have e2 : sSto 0 (mQ (q2 addD (qIxV 0 (qc (.int 1))) (qc (.int 1)))) (qc (.int 1)) [hd cs i 0 y z, .int b, .int c, .none, .none] = .nx [hd cs (i + 1) 0 y z, .int b, .int c, .none, .none] := sto_h1 _ _ _ _ _ _ _ _ rfl
      have e3 : sSto 0 (mQ mx) (qc (.int 3)) [hd cs (i + 1) 0 y z, .int b, .int c, .none, .none] = .nx [hd cs (i + 1) 0 v z, .int b, .int c, .none, .none] := sto_h3 _ _ _ _ _ _ _ _ hv
      have e4 : qT (q2 geD (qv 2) (q2 powD (qc (.int 10)) (qc (.int 18)))) [hd cs (i + 1) 0 v z, .int b, .int c, .none, .none] = .ok (decide (1000000000000000000 ≤ c)) := qT_ok rfl
      unfold b_takeG
      by_cases hg : (1000000000000000000 : Int) ≤ c
      · rw [decide_eq_true hg] at e4
        exact ⟨_, ⟨cs, i + 1, c, v, z, rfl, h1, by omega, hc0⟩, (if_t e0).trans (s_set e1 (s_to e2 (s_to e3 (s_ift e4 (s_as (s_to (sto_h2 _ _ _ _ _ _ _ c rfl) rfl))))))⟩
      · rw [decide_eq_false hg] at e4
        exact ⟨_, ⟨cs, i + 1, 0, v, z, rfl, h1, by omega, Int.le_refl 0⟩, (if_t e0).trans (s_set e1 (s_to e2 (s_to e3 (s_iffN e4 rfl))))⟩
    · refine ⟨_, ⟨cs, i, x, y, z, rfl, h1, h2, h3⟩, ?_⟩
      subst hx
      unfold b_takeG
      rw [if_f]
      · rfl
      · rw [bAnd_t (qT_ok (b := true) (q2_ok (ix_h2 ..) rfl (eqD_int 0 0)))]
        refine qT_ok (q2_ok (ix_h1 ..) (qC1_ok (ix_h0 ..) (len_list _)) ?_)
        rw [lt_int, List.length_map, decide_eq_false hi]
  · refine ⟨_, ⟨cs, i, x, y, z, rfl, h1, h2, h3⟩, ?_⟩
    unfold b_takeG
    rw [if_f]
    · rfl
    · exact bAnd_f (qT_ok (q2_ok (ix_h2 ..) rfl (by rw [eqD_int, decide_eq_false hx])))
theorem restG {k1 k2 : Int} (hk : 0 < k2) {h : Dt} (ok : HandOk h) {b : Int} (h0 : 0 < b) (h30 : b < 1073741824) : ∃ d h' e3 e4, HandOk h' ∧ 0 ≤ d ∧ d < b ∧ b_restG k1 k2 [h, .int b, .none, .none, .none] = .rt (.int d) [h', .int b, .none, e3, e4] := by
  obtain ⟨cs, i, x, y, z, rfl, h1, h2, h3⟩ := ok
  have ec : qT (q2 gtD (qIxV 0 (qc (.int 2))) (qc (.int 0))) [hd cs i x y z, .int b, .none, .none, .none] = .ok (decide (0 < x)) := qT_ok (q2_ok (ix_h2 ..) rfl rfl)
  unfold b_restG
  by_cases hx : 0 < x
  · rw [decide_eq_true hx] at ec
    refine ⟨x % b, _, .int (x % b), .none, ⟨cs, i, x / b, y, z, rfl, h1, h2, Int.ediv_nonneg h3 (Int.le_of_lt h0)⟩, Int.emod_nonneg _ (by omega), Int.emod_lt_of_pos _ h0, ?_⟩
    exact s_ift ec (s_as (s_set (q2_ok (qC1_ok (ix_h2 ..) rfl) rfl (mod_ok h0)) (s_as (s_to (sto_h2 cs i x y z [.int b, .none, .int (x % b), .none] _ (x / b) (q2_ok (ix_h2 ..) rfl (fdv_ok ⟨h0, h30⟩))) (s_rt (s_ret rfl))))))
  · rw [decide_eq_false hx] at ec
    generalize hn : (y + 7919 * (z + 1)) * 48271 % 2147483647 = n
    have n1 : 0 ≤ n := by rw [← hn]; exact Int.emod_nonneg _ (by decide)
    have n2 : n < 2147483647 := by rw [← hn]; exact Int.emod_lt_of_pos _ (by decide)
    generalize hm : n * (n / 1009 + 69621) % 2147483647 = m
    have m1 : 0 ≤ m := by rw [← hm]; exact Int.emod_nonneg _ (by decide)
    have m2 : m < 2147483647 := by rw [← hm]; exact Int.emod_lt_of_pos _ (by decide)
    generalize hl : m * (m / 2003 + k1) % k2 = l
    refine ⟨l / 16 % b, _, .none, .int l, ⟨cs, i, x, y, z + 1, rfl, h1, h2, h3⟩, Int.emod_nonneg _ (by omega), Int.emod_lt_of_pos _ h0, ?_⟩
    have q1 : q2 modD (qC intD (lcons (q2 mulD (qC intD (lcons (q2 addD (qIxV 0 (qc (.int 3))) (q2 mulD (qc (.int 7919)) (qIxV 0 (qc (.int 4))))) lnil)) (qc (.int 48271))) lnil)) (qc (.int 2147483647)) [hd cs i x y (z + 1), .int b, .none, .none, .none] = .ok (.int n) := by
      rw [← hn]
      exact q2_ok (qC1_ok (q2_ok (qC1_ok (q2_ok (ix_h3 ..) (q2_ok rfl (ix_h4 ..) (mul_l (by decide))) rfl) rfl) rfl (mul_r (by decide))) rfl) rfl (mod_ok (by decide))
    have q2' : q2 modD (qC intD (lcons (q2 mulD (qv 4) (q2 addD (q2 fdvD (qv 4) (qc (.int 1009))) (qc (.int 69621)))) lnil)) (qc (.int 2147483647)) [hd cs i x y (z + 1), .int b, .none, .none, .int n] = .ok (.int m) := by
      rw [← hm]
      exact q2_ok (qC1_ok (q2_ok (rfl : qv 4 _ = .ok (.int n)) (q2_ok (q2_ok (rfl : qv 4 _ = .ok (.int n)) rfl (fdv_ok (by decide))) rfl rfl) (mul_l (by omega))) rfl) rfl (mod_ok (by decide))
    have q3 : q2 modD (qC intD (lcons (q2 mulD (qv 4) (q2 addD (q2 fdvD (qv 4) (qc (.int 2003))) (qc (.int k1)))) lnil)) (qc (.int k2)) [hd cs i x y (z + 1), .int b, .none, .none, .int m] = .ok (.int l) := by
      rw [← hl]
      exact q2_ok (qC1_ok (q2_ok (rfl : qv 4 _ = .ok (.int m)) (q2_ok (q2_ok (rfl : qv 4 _ = .ok (.int m)) rfl (fdv_ok (by decide))) rfl rfl) (mul_l (by omega))) rfl) rfl (mod_ok hk)
    exact s_iffN ec (s_to (sto_h4 cs i x y z [.int b, .none, .none, .none] _ (z + 1) (q2_ok (ix_h4 ..) rfl rfl)) (s_set q1 (s_set q2' (s_set q3 (s_ret (q2_ok (qC1_ok (q2_ok (rfl : qv 4 _ = .ok (.int l)) rfl (fdv_ok (by decide))) rfl) rfl (mod_ok h0)))))))
theorem dr_g {mx : En → R Dt} {k1 k2 : Int} (hm : Mx mx) (hk : 0 < k2) : Dr (m_drawG mx k1 k2) := fun h ok b h0 h30 => by
  obtain ⟨h1, o1, e1⟩ := takeG hm ok b
  obtain ⟨d, h2, e3, e4, o2, d0, db, e2⟩ := restG (k1 := k1) hk o1 h0 h30
  refine ⟨d, h2, ?_, o2, d0, db⟩
  show finM (sSeq (b_takeG mx) (b_restG k1 k2) [h, .int b, .none, .none, .none]) = _
  rw [seq_nx e1, e2]
  rfl
def mixA (a k0 : Int) : En → R Dt := q2 modD (qC intD (lcons (q2 addD (q2 addD (q2 mulD (qIxV 0 (qc (.int 3))) (qc (.int 69621))) (q2 mulD (qv 2) (qc (.int a)))) (qc (.int k0))) lnil)) (qc (.int 2147483629))
def mixB (k0 : Int) : En → R Dt := q2 modD (qC intD (lcons (q2 addD (q2 addD (q2 mulD (qIxV 0 (qc (.int 3))) (qc (.int 69621))) (qv 2)) (qc (.int k0))) lnil)) (qc (.int 2147483629))
theorem mx_A {a k0 : Int} (ha : -(2 ^ 64) < a ∧ a < 2 ^ 64) : Mx (mixA a k0) := fun cs i x y z b c => ⟨_, q2_ok (qC1_ok (q2_ok (q2_ok (q2_ok (ix_h3 ..) rfl (mul_r (by decide))) (q2_ok rfl rfl (mul_r ha)) rfl) rfl rfl) rfl) rfl (mod_ok (by decide))⟩
theorem mx_B {k0 : Int} : Mx (mixB k0) := fun cs i x y z b c => ⟨_, q2_ok (qC1_ok (q2_ok (q2_ok (q2_ok (ix_h3 ..) rfl (mul_r (by decide))) rfl rfl) rfl rfl) rfl) rfl (mod_ok (by decide))⟩
/-! ### drawn lists -/
/-- 1 + a draw -/
theorem dr_1 {m : Dt → List Dt → R (Dt × Dt)} (D : Dr m) {k : Int} (hk : 0 < k) (hk2 : k < 1073741824) {h : Dt} {r : En} (ok : HandOk h) : ∃ (n : Nat) (h' : Dt), m2 addD (mQ (qc (.int 1))) (mIo 0 m (mcons (mQ (qc (.int k))) mnil)) (h :: r) = .ok (.int n, h' :: r) ∧ HandOk h' ∧ 1 ≤ n ∧ (n : Int) ≤ k := by
  obtain ⟨d, h', a, k', b, c⟩ := dr_at D (q := qc (.int k)) (h := h) (r := r) ok rfl hk hk2
  refine ⟨(1 + d).toNat, h', ?_, k', by omega, by omega⟩
  rw [show (((1 + d).toNat : Nat) : Int) = 1 + d by omega]
  exact m2_ok rfl a (add_int 1 d)
/-! ### the hand -/
def b_handG (el y : En → R Dt) (ns : List Int) : En → RS := (sSeq (sSet 1 (qLC (iSeq (qScr ns)) [2] (gN 2) bYes el))
  (sSeq (sRet (qlst (lcons (qv 1) (lcons (qc (.int 0)) (lcons (qc (.int 0)) (lcons y (lcons (qc (.int 0)) lnil)))))))
  sNx))
theorem hand_g {el y : En → R Dt} (he : ∀ x : Int, ∃ c : Int, 0 ≤ c ∧ el [.none, .none, .int x] = .ok (.int c)) (hy : ∀ cs : List Int, ∃ v : Int, y [.none, .list (cs.map .int), .none] = .ok (.int v)) (ns : List Int) : ∃ h, fin (b_handG el y ns (List.replicate 3 .none)) = .ok h ∧ HandOk h := by
  obtain ⟨f, hf⟩ := Classical.axiomOfChoice he
  have e1 : qLC (iSeq (qScr ns)) [2] (gN 2) bYes el [.none, .none, .none] = .ok (.list ((cutL ns none (some 63)).map fun x => PyData.int (f x))) := by
    refine lc_typ PyData.int (xs := cutL ns none (some 63)) ?_ fun x hx => ⟨_, rfl, (hf x).2⟩
    show R.ok (cutL (ns.map PyData.int) none (some 63)) = _
    unfold cutL
    rw [List.map_take, List.map_drop, List.length_map]
  have e2 : ((cutL ns none (some 63)).map fun x => PyData.int (f x)) = ((cutL ns none (some 63)).map f).map .int := by rw [List.map_map]; rfl
  rw [e2] at e1
  obtain ⟨v, hv⟩ := hy ((cutL ns none (some 63)).map f)
  refine ⟨hd ((cutL ns none (some 63)).map f) 0 0 v 0, fin_of (e' := [.none, .list (((cutL ns none (some 63)).map f).map .int), .none]) ?_, hand_ok (fun c hc => ?_) v⟩
  · unfold b_handG
    exact s_set e1 (s_ret (qlst_ok (lcons_ok rfl (lcons_ok rfl (lcons_ok rfl (lcons_ok hv (lcons_ok rfl (lnil_ok _))))))))
  · obtain ⟨x, _, rfl⟩ := List.mem_map.mp hc
    exact (hf x).1
theorem el_abs (x : Int) : ∃ c : Int, 0 ≤ c ∧ qC absD (lcons (qC intD (lcons (qv 2) lnil)) lnil) [.none, .none, .int x] = .ok (.int c) := ⟨if x < 0 then -x else x, by split <;> omega, rfl⟩
theorem y_len (a b : Int) (hb : -(2 ^ 64) < b ∧ b < 2 ^ 64) (cs : List Int) : ∃ v : Int, q2 addD (qc (.int a)) (q2 mulD (qc (.int b)) (qC lenD (lcons (qv 1) lnil))) [.none, .list (cs.map .int), .none] = .ok (.int v) := ⟨_, q2_ok rfl (q2_ok rfl rfl (mul_l hb)) rfl⟩
theorem y_len1 (a : Int) (cs : List Int) : ∃ v : Int, q2 addD (qc (.int a)) (qC lenD (lcons (qv 1) lnil)) [.none, .list (cs.map .int), .none] = .ok (.int v) := ⟨_, q2_ok rfl rfl rfl⟩
/-! ### odd things: wrapped -/
inductive Od (z : List Dt) : Dt → Prop
  | base (x : Dt) (h : x ∈ z) : Od z x
  | tup (x : Dt) (h : Od z x) : Od z (.tuple [x])
  | lst (x : Dt) (h : Od z x) : Od z (.list [x])
/-- wrapped, so many times as drawn -/
theorem wrap_loop {m : Dt → List Dt → R (Dt × Dt)} (A : An m) {z : List Dt} {body : En → RS} {k : Nat} {n : Nat} (hb : ∀ h x d, HandOk h → Od z x → ∃ x' h', body [h, x, d] = .nx [h', x', .none] ∧ HandOk h' ∧ Od z x') : ∀ (ds : List Dt) (h x : Dt), HandOk h → Od z x → ∃ x' h', forL (gN 2) body ds [h, x, .none] = .nx [h', x', .none] ∧ HandOk h' ∧ Od z x'
  | [], h, x, ok, o => ⟨x, h, rfl, ok, o⟩
  | d :: ds, h, x, ok, o => by
    obtain ⟨x1, h1, e1, k1, o1⟩ := hb h x d ok o
    obtain ⟨x2, h2, e2, k2, o2⟩ := wrap_loop A (k := k) (n := n) hb ds h1 x1 k1 o1
    exact ⟨x2, h2, for_cons (e1 := [h, x, d]) rfl e1 e2, k2, o2⟩
end PL
namespace K42
open PySem PySem.Spec PyProof.Rows L2 VL
def top (i : Nat) : Stmt := PySem.Challenge.pw_schoolyear_k42_whole_bells_minute_by_min.main.body.getD i (.Pass ⟨0, 0, 0, 0⟩)
def d_is_integer : He.DefD := ⟨("is_integer", none), "is_integer", "is_integer", defArgs (top 1), defBody (top 1), defScope (top 1), [], []⟩
def d_is_within : He.DefD := ⟨("is_within", none), "is_within", "is_within", defArgs (top 2), defBody (top 2), defScope (top 2), [], []⟩
def d_is_sized : He.DefD := ⟨("is_sized", none), "is_sized", "is_sized", defArgs (top 3), defBody (top 3), defScope (top 3), [], []⟩
def d_is_bell : He.DefD := ⟨("is_bell", none), "is_bell", "is_bell", defArgs (top 16), defBody (top 16), defScope (top 16), [], []⟩
def d_check_bells : He.DefD := ⟨("check_bells", none), "check_bells", "check_bells", defArgs (top 17), defBody (top 17), defScope (top 17), [], []⟩
def d_check_minute : He.DefD := ⟨("check_minute", none), "check_minute", "check_minute", defArgs (top 18), defBody (top 18), defScope (top 18), [], []⟩
def d_raw_rings : He.DefD := ⟨("raw_rings", none), "raw_rings", "raw_rings", defArgs (top 19), defBody (top 19), defScope (top 19), [], []⟩
def d_rings_at : He.DefD := ⟨("rings_at", none), "rings_at", "rings_at", defArgs (top 20), defBody (top 20), defScope (top 20), [], []⟩
def d_next_ring : He.DefD := ⟨("next_ring", none), "next_ring", "next_ring", defArgs (top 21), defBody (top 21), defScope (top 21), [], []⟩
def d_common_divisor : He.DefD := ⟨("common_divisor", none), "common_divisor", "common_divisor", defArgs (top 22), defBody (top 22), defScope (top 22), [], []⟩
def d_raw_round : He.DefD := ⟨("raw_round", none), "raw_round", "raw_round", defArgs (top 23), defBody (top 23), defScope (top 23), [], []⟩
def d_round_of_bells : He.DefD := ⟨("round_of_bells", none), "round_of_bells", "round_of_bells", defArgs (top 24), defBody (top 24), defScope (top 24), [], []⟩
def d_never_meet : He.DefD := ⟨("never_meet", none), "never_meet", "never_meet", defArgs (top 25), defBody (top 25), defScope (top 25), [], []⟩
def d_strangers : He.DefD := ⟨("strangers", none), "strangers", "strangers", defArgs (top 26), defBody (top 26), defScope (top 26), [], []⟩
def d_first_meeting : He.DefD := ⟨("first_meeting", none), "first_meeting", "first_meeting", defArgs (top 27), defBody (top 27), defScope (top 27), [], []⟩
def d_count_together : He.DefD := ⟨("count_together", none), "count_together", "count_together", defArgs (top 28), defBody (top 28), defScope (top 28), [], []⟩
def d_together_count : He.DefD := ⟨("together_count", none), "together_count", "together_count", defArgs (top 29), defBody (top 29), defScope (top 29), [], []⟩
def d_bell_lots : He.DefD := ⟨("bell_lots", none), "bell_lots", "bell_lots", defArgs (top 30), defBody (top 30), defScope (top 30), [], []⟩
def d_raw_count : He.DefD := ⟨("raw_count", none), "raw_count", "raw_count", defArgs (top 31), defBody (top 31), defScope (top 31), [], []⟩
def d_ring_count : He.DefD := ⟨("ring_count", none), "ring_count", "ring_count", defArgs (top 32), defBody (top 32), defScope (top 32), [], []⟩
def d_alone_count : He.DefD := ⟨("alone_count", none), "alone_count", "alone_count", defArgs (top 33), defBody (top 33), defScope (top 33), [], []⟩
def d__law_hand : He.DefD := ⟨("_law_hand", none), "_law_hand", "_law_hand", defArgs (top 35), defBody (top 35), defScope (top 35), [], []⟩
def d__law_draw : He.DefD := ⟨("_law_draw", none), "_law_draw", "_law_draw", defArgs (top 36), defBody (top 36), defScope (top 36), [], []⟩
def d__law_any : He.DefD := ⟨("_law_any", none), "_law_any", "_law_any", defArgs (top 37), defBody (top 37), defScope (top 37), [], []⟩
def d__law_bells : He.DefD := ⟨("_law_bells", none), "_law_bells", "_law_bells", defArgs (top 38), defBody (top 38), defScope (top 38), [], []⟩
def d__law_round : He.DefD := ⟨("_law_round", none), "_law_round", "_law_round", defArgs (top 39), defBody (top 39), defScope (top 39), [], []⟩
def d__law_rings : He.DefD := ⟨("_law_rings", none), "_law_rings", "_law_rings", defArgs (top 40), defBody (top 40), defScope (top 40), [], []⟩
def d__law_bad_bells : He.DefD := ⟨("_law_bad_bells", none), "_law_bad_bells", "_law_bad_bells", defArgs (top 41), defBody (top 41), defScope (top 41), [], []⟩
def d__law_word : He.DefD := ⟨("_law_word", none), "_law_word", "_law_word", defArgs (top 42), defBody (top 42), defScope (top 42), [], []⟩
def d__law_counts : He.DefD := ⟨("_law_counts", none), "_law_counts", "_law_counts", defArgs (top 43), defBody (top 43), defScope (top 43), [], []⟩
def d__law_told : He.DefD := ⟨("_law_told", none), "_law_told", "_law_told", defArgs (top 44), defBody (top 44), defScope (top 44), [], []⟩
def d__law_refused_right : He.DefD := ⟨("_law_refused_right", none), "_law_refused_right", "_law_refused_right", defArgs (top 45), defBody (top 45), defScope (top 45), [], []⟩
def d_law : He.DefD := ⟨("law", none), "law", "law", defArgs (top 46), defBody (top 46), defScope (top 46), [], []⟩
def fn : List He.DefD := [d_is_integer, d_is_within, d_is_sized, d_is_bell, d_check_bells, d_check_minute, d_raw_rings, d_rings_at, d_next_ring, d_common_divisor, d_raw_round, d_round_of_bells, d_never_meet, d_strangers, d_first_meeting, d_count_together, d_together_count, d_bell_lots, d_raw_count, d_ring_count, d_alone_count, d__law_hand, d__law_draw, d__law_any, d__law_bells, d__law_round, d__law_rings, d__law_bad_bells, d__law_word, d__law_counts, d__law_told, d__law_refused_right, d_law]
def fa : List He.Fa := [.glo "is_integer", .glo "is_within", .glo "is_sized", .glo "is_bell", .glo "check_bells", .glo "check_minute", .glo "raw_rings", .glo "rings_at", .glo "next_ring", .glo "common_divisor", .glo "raw_round", .glo "round_of_bells", .glo "never_meet", .glo "strangers", .glo "first_meeting", .glo "count_together", .glo "together_count", .glo "bell_lots", .glo "raw_count", .glo "ring_count", .glo "alone_count", .glo "_law_hand", .glo "_law_draw", .glo "_law_any", .glo "_law_bells", .glo "_law_round", .glo "_law_rings", .glo "_law_bad_bells", .glo "_law_word", .glo "_law_counts", .glo "_law_told", .glo "_law_refused_right", .glo "law", .glo "SchoolError", .glo "NoBells", .glo "NoFloor", .glo "NoLengths", .glo "NoMinute", .glo "NoNumber", .glo "TooMany", .free "ValueError", .free "abs", .free "all", .free "any", .free "bool", .free "enumerate", .free "int", .free "isinstance", .free "len", .free "min", .free "range", .free "tuple", .free "zip", .int "MOST_FLOORS" 6, .int "MOST_EVERY" 60, .int "MOST_MINUTE" 1000000000000000000, .exc "SchoolError", .exc "NoBells", .exc "NoFloor", .exc "NoLengths", .exc "NoMinute", .exc "NoNumber"]
def tf : List He.Defn := [("_law_refused_right", none)]
def exL (K : Kf) : List Bool := [exmB K "NoBells" "NoBells" true, exmB K "NoFloor" "NoBells" false, exmB K "NoMinute" "NoBells" false, exmB K "NoBells" "NoFloor" false, exmB K "NoFloor" "NoFloor" true, exmB K "NoMinute" "NoFloor" false, exmB K "NoBells" "NoLengths" false, exmB K "NoFloor" "NoLengths" false, exmB K "NoMinute" "NoLengths" false, exmB K "NoBells" "NoMinute" false, exmB K "NoFloor" "NoMinute" false, exmB K "NoMinute" "NoMinute" true, exmB K "NoBells" "NoNumber" false, exmB K "NoFloor" "NoNumber" false, exmB K "NoMinute" "NoNumber" false, exmB K "NoBells" "TooMany" false, exmB K "NoFloor" "TooMany" false, exmB K "NoMinute" "TooMany" false, excB K "NoBells", excB K "NoFloor", excB K "NoMinute", kitB K "NoBells" "SchoolError" true, kitB K "NoFloor" "SchoolError" true, kitB K "NoMinute" "SchoolError" true, decide ((tf.map fun p => (He.cT K p).2).Nodup)]
def ex (K : Kf) : Bool := (exL K).all id
structure Fx (w : World) (K : Kf) (mg : Str → Option Value) : Prop where
  ex : ∃ h : Heap, K.In h ∧ h.Ns mainGlobals mg ∧ He.SaysT fa fn [] w K ∧ ex K = true
section
variable {w : World} {K : Kf} {mg : Str → Option Value}
theorem e_ok (F : Fx w K mg) {j : Nat} {b : Bool} (h : (exL K)[j]? = some b) : b = true := by obtain ⟨_, _, _, _, c⟩ := F.ex; exact List.all_eq_true.mp c b (List.mem_of_getElem? h)
theorem g_is_integer (F : Fx w K mg) : mg ("is_integer" : Str) = some (.ref (He.ga K "is_integer")) := by obtain ⟨h, X, G, c, _⟩ := F.ex; exact He.glo_ok X G (c.d.fact 0 (f := .glo "is_integer") rfl)
theorem g_is_within (F : Fx w K mg) : mg ("is_within" : Str) = some (.ref (He.ga K "is_within")) := by obtain ⟨h, X, G, c, _⟩ := F.ex; exact He.glo_ok X G (c.d.fact 1 (f := .glo "is_within") rfl)
theorem g_is_sized (F : Fx w K mg) : mg ("is_sized" : Str) = some (.ref (He.ga K "is_sized")) := by obtain ⟨h, X, G, c, _⟩ := F.ex; exact He.glo_ok X G (c.d.fact 2 (f := .glo "is_sized") rfl)
theorem g_is_bell (F : Fx w K mg) : mg ("is_bell" : Str) = some (.ref (He.ga K "is_bell")) := by obtain ⟨h, X, G, c, _⟩ := F.ex; exact He.glo_ok X G (c.d.fact 3 (f := .glo "is_bell") rfl)
theorem g_check_bells (F : Fx w K mg) : mg ("check_bells" : Str) = some (.ref (He.ga K "check_bells")) := by obtain ⟨h, X, G, c, _⟩ := F.ex; exact He.glo_ok X G (c.d.fact 4 (f := .glo "check_bells") rfl)
theorem g_check_minute (F : Fx w K mg) : mg ("check_minute" : Str) = some (.ref (He.ga K "check_minute")) := by obtain ⟨h, X, G, c, _⟩ := F.ex; exact He.glo_ok X G (c.d.fact 5 (f := .glo "check_minute") rfl)
theorem g_raw_rings (F : Fx w K mg) : mg ("raw_rings" : Str) = some (.ref (He.ga K "raw_rings")) := by obtain ⟨h, X, G, c, _⟩ := F.ex; exact He.glo_ok X G (c.d.fact 6 (f := .glo "raw_rings") rfl)
theorem g_rings_at (F : Fx w K mg) : mg ("rings_at" : Str) = some (.ref (He.ga K "rings_at")) := by obtain ⟨h, X, G, c, _⟩ := F.ex; exact He.glo_ok X G (c.d.fact 7 (f := .glo "rings_at") rfl)
theorem g_next_ring (F : Fx w K mg) : mg ("next_ring" : Str) = some (.ref (He.ga K "next_ring")) := by obtain ⟨h, X, G, c, _⟩ := F.ex; exact He.glo_ok X G (c.d.fact 8 (f := .glo "next_ring") rfl)
theorem g_common_divisor (F : Fx w K mg) : mg ("common_divisor" : Str) = some (.ref (He.ga K "common_divisor")) := by obtain ⟨h, X, G, c, _⟩ := F.ex; exact He.glo_ok X G (c.d.fact 9 (f := .glo "common_divisor") rfl)
theorem g_raw_round (F : Fx w K mg) : mg ("raw_round" : Str) = some (.ref (He.ga K "raw_round")) := by obtain ⟨h, X, G, c, _⟩ := F.ex; exact He.glo_ok X G (c.d.fact 10 (f := .glo "raw_round") rfl)
theorem g_round_of_bells (F : Fx w K mg) : mg ("round_of_bells" : Str) = some (.ref (He.ga K "round_of_bells")) := by obtain ⟨h, X, G, c, _⟩ := F.ex; exact He.glo_ok X G (c.d.fact 11 (f := .glo "round_of_bells") rfl)
theorem g_never_meet (F : Fx w K mg) : mg ("never_meet" : Str) = some (.ref (He.ga K "never_meet")) := by obtain ⟨h, X, G, c, _⟩ := F.ex; exact He.glo_ok X G (c.d.fact 12 (f := .glo "never_meet") rfl)
theorem g_strangers (F : Fx w K mg) : mg ("strangers" : Str) = some (.ref (He.ga K "strangers")) := by obtain ⟨h, X, G, c, _⟩ := F.ex; exact He.glo_ok X G (c.d.fact 13 (f := .glo "strangers") rfl)
theorem g_first_meeting (F : Fx w K mg) : mg ("first_meeting" : Str) = some (.ref (He.ga K "first_meeting")) := by obtain ⟨h, X, G, c, _⟩ := F.ex; exact He.glo_ok X G (c.d.fact 14 (f := .glo "first_meeting") rfl)
theorem g_count_together (F : Fx w K mg) : mg ("count_together" : Str) = some (.ref (He.ga K "count_together")) := by obtain ⟨h, X, G, c, _⟩ := F.ex; exact He.glo_ok X G (c.d.fact 15 (f := .glo "count_together") rfl)
theorem g_together_count (F : Fx w K mg) : mg ("together_count" : Str) = some (.ref (He.ga K "together_count")) := by obtain ⟨h, X, G, c, _⟩ := F.ex; exact He.glo_ok X G (c.d.fact 16 (f := .glo "together_count") rfl)
theorem g_bell_lots (F : Fx w K mg) : mg ("bell_lots" : Str) = some (.ref (He.ga K "bell_lots")) := by obtain ⟨h, X, G, c, _⟩ := F.ex; exact He.glo_ok X G (c.d.fact 17 (f := .glo "bell_lots") rfl)
theorem g_raw_count (F : Fx w K mg) : mg ("raw_count" : Str) = some (.ref (He.ga K "raw_count")) := by obtain ⟨h, X, G, c, _⟩ := F.ex; exact He.glo_ok X G (c.d.fact 18 (f := .glo "raw_count") rfl)
theorem g_ring_count (F : Fx w K mg) : mg ("ring_count" : Str) = some (.ref (He.ga K "ring_count")) := by obtain ⟨h, X, G, c, _⟩ := F.ex; exact He.glo_ok X G (c.d.fact 19 (f := .glo "ring_count") rfl)
theorem g_alone_count (F : Fx w K mg) : mg ("alone_count" : Str) = some (.ref (He.ga K "alone_count")) := by obtain ⟨h, X, G, c, _⟩ := F.ex; exact He.glo_ok X G (c.d.fact 20 (f := .glo "alone_count") rfl)
theorem g__law_hand (F : Fx w K mg) : mg ("_law_hand" : Str) = some (.ref (He.ga K "_law_hand")) := by obtain ⟨h, X, G, c, _⟩ := F.ex; exact He.glo_ok X G (c.d.fact 21 (f := .glo "_law_hand") rfl)
theorem g__law_draw (F : Fx w K mg) : mg ("_law_draw" : Str) = some (.ref (He.ga K "_law_draw")) := by obtain ⟨h, X, G, c, _⟩ := F.ex; exact He.glo_ok X G (c.d.fact 22 (f := .glo "_law_draw") rfl)
theorem g__law_any (F : Fx w K mg) : mg ("_law_any" : Str) = some (.ref (He.ga K "_law_any")) := by obtain ⟨h, X, G, c, _⟩ := F.ex; exact He.glo_ok X G (c.d.fact 23 (f := .glo "_law_any") rfl)
theorem g__law_bells (F : Fx w K mg) : mg ("_law_bells" : Str) = some (.ref (He.ga K "_law_bells")) := by obtain ⟨h, X, G, c, _⟩ := F.ex; exact He.glo_ok X G (c.d.fact 24 (f := .glo "_law_bells") rfl)
theorem g__law_round (F : Fx w K mg) : mg ("_law_round" : Str) = some (.ref (He.ga K "_law_round")) := by obtain ⟨h, X, G, c, _⟩ := F.ex; exact He.glo_ok X G (c.d.fact 25 (f := .glo "_law_round") rfl)
theorem g__law_rings (F : Fx w K mg) : mg ("_law_rings" : Str) = some (.ref (He.ga K "_law_rings")) := by obtain ⟨h, X, G, c, _⟩ := F.ex; exact He.glo_ok X G (c.d.fact 26 (f := .glo "_law_rings") rfl)
theorem g__law_bad_bells (F : Fx w K mg) : mg ("_law_bad_bells" : Str) = some (.ref (He.ga K "_law_bad_bells")) := by obtain ⟨h, X, G, c, _⟩ := F.ex; exact He.glo_ok X G (c.d.fact 27 (f := .glo "_law_bad_bells") rfl)
theorem g__law_word (F : Fx w K mg) : mg ("_law_word" : Str) = some (.ref (He.ga K "_law_word")) := by obtain ⟨h, X, G, c, _⟩ := F.ex; exact He.glo_ok X G (c.d.fact 28 (f := .glo "_law_word") rfl)
theorem g__law_counts (F : Fx w K mg) : mg ("_law_counts" : Str) = some (.ref (He.ga K "_law_counts")) := by obtain ⟨h, X, G, c, _⟩ := F.ex; exact He.glo_ok X G (c.d.fact 29 (f := .glo "_law_counts") rfl)
theorem g__law_told (F : Fx w K mg) : mg ("_law_told" : Str) = some (.ref (He.ga K "_law_told")) := by obtain ⟨h, X, G, c, _⟩ := F.ex; exact He.glo_ok X G (c.d.fact 30 (f := .glo "_law_told") rfl)
theorem g__law_refused_right (F : Fx w K mg) : mg ("_law_refused_right" : Str) = some (.ref (He.ga K "_law_refused_right")) := by obtain ⟨h, X, G, c, _⟩ := F.ex; exact He.glo_ok X G (c.d.fact 31 (f := .glo "_law_refused_right") rfl)
theorem g_law (F : Fx w K mg) : mg ("law" : Str) = some (.ref (He.ga K "law")) := by obtain ⟨h, X, G, c, _⟩ := F.ex; exact He.glo_ok X G (c.d.fact 32 (f := .glo "law") rfl)
theorem g_SchoolError (F : Fx w K mg) : mg ("SchoolError" : Str) = some (.ref (He.ga K "SchoolError")) := by obtain ⟨h, X, G, c, _⟩ := F.ex; exact He.glo_ok X G (c.d.fact 33 (f := .glo "SchoolError") rfl)
theorem g_NoBells (F : Fx w K mg) : mg ("NoBells" : Str) = some (.ref (He.ga K "NoBells")) := by obtain ⟨h, X, G, c, _⟩ := F.ex; exact He.glo_ok X G (c.d.fact 34 (f := .glo "NoBells") rfl)
theorem g_NoFloor (F : Fx w K mg) : mg ("NoFloor" : Str) = some (.ref (He.ga K "NoFloor")) := by obtain ⟨h, X, G, c, _⟩ := F.ex; exact He.glo_ok X G (c.d.fact 35 (f := .glo "NoFloor") rfl)
theorem g_NoLengths (F : Fx w K mg) : mg ("NoLengths" : Str) = some (.ref (He.ga K "NoLengths")) := by obtain ⟨h, X, G, c, _⟩ := F.ex; exact He.glo_ok X G (c.d.fact 36 (f := .glo "NoLengths") rfl)
theorem g_NoMinute (F : Fx w K mg) : mg ("NoMinute" : Str) = some (.ref (He.ga K "NoMinute")) := by obtain ⟨h, X, G, c, _⟩ := F.ex; exact He.glo_ok X G (c.d.fact 37 (f := .glo "NoMinute") rfl)
theorem g_NoNumber (F : Fx w K mg) : mg ("NoNumber" : Str) = some (.ref (He.ga K "NoNumber")) := by obtain ⟨h, X, G, c, _⟩ := F.ex; exact He.glo_ok X G (c.d.fact 38 (f := .glo "NoNumber") rfl)
theorem g_TooMany (F : Fx w K mg) : mg ("TooMany" : Str) = some (.ref (He.ga K "TooMany")) := by obtain ⟨h, X, G, c, _⟩ := F.ex; exact He.glo_ok X G (c.d.fact 39 (f := .glo "TooMany") rfl)
theorem n_ValueError (F : Fx w K mg) : mg ("ValueError" : Str) = none := by obtain ⟨h, X, G, c, _⟩ := F.ex; exact He.free_ok X G (c.d.fact 40 (f := .free "ValueError") rfl)
theorem n_abs (F : Fx w K mg) : mg ("abs" : Str) = none := by obtain ⟨h, X, G, c, _⟩ := F.ex; exact He.free_ok X G (c.d.fact 41 (f := .free "abs") rfl)
theorem n_all (F : Fx w K mg) : mg ("all" : Str) = none := by obtain ⟨h, X, G, c, _⟩ := F.ex; exact He.free_ok X G (c.d.fact 42 (f := .free "all") rfl)
theorem n_any (F : Fx w K mg) : mg ("any" : Str) = none := by obtain ⟨h, X, G, c, _⟩ := F.ex; exact He.free_ok X G (c.d.fact 43 (f := .free "any") rfl)
theorem n_bool (F : Fx w K mg) : mg ("bool" : Str) = none := by obtain ⟨h, X, G, c, _⟩ := F.ex; exact He.free_ok X G (c.d.fact 44 (f := .free "bool") rfl)
theorem n_enumerate (F : Fx w K mg) : mg ("enumerate" : Str) = none := by obtain ⟨h, X, G, c, _⟩ := F.ex; exact He.free_ok X G (c.d.fact 45 (f := .free "enumerate") rfl)
theorem n_int (F : Fx w K mg) : mg ("int" : Str) = none := by obtain ⟨h, X, G, c, _⟩ := F.ex; exact He.free_ok X G (c.d.fact 46 (f := .free "int") rfl)
theorem n_isinstance (F : Fx w K mg) : mg ("isinstance" : Str) = none := by obtain ⟨h, X, G, c, _⟩ := F.ex; exact He.free_ok X G (c.d.fact 47 (f := .free "isinstance") rfl)
theorem n_len (F : Fx w K mg) : mg ("len" : Str) = none := by obtain ⟨h, X, G, c, _⟩ := F.ex; exact He.free_ok X G (c.d.fact 48 (f := .free "len") rfl)
theorem n_min (F : Fx w K mg) : mg ("min" : Str) = none := by obtain ⟨h, X, G, c, _⟩ := F.ex; exact He.free_ok X G (c.d.fact 49 (f := .free "min") rfl)
theorem n_range (F : Fx w K mg) : mg ("range" : Str) = none := by obtain ⟨h, X, G, c, _⟩ := F.ex; exact He.free_ok X G (c.d.fact 50 (f := .free "range") rfl)
theorem n_tuple (F : Fx w K mg) : mg ("tuple" : Str) = none := by obtain ⟨h, X, G, c, _⟩ := F.ex; exact He.free_ok X G (c.d.fact 51 (f := .free "tuple") rfl)
theorem n_zip (F : Fx w K mg) : mg ("zip" : Str) = none := by obtain ⟨h, X, G, c, _⟩ := F.ex; exact He.free_ok X G (c.d.fact 52 (f := .free "zip") rfl)
theorem c_MOST_FLOORS (F : Fx w K mg) : ∃ t, mg ("MOST_FLOORS" : Str) = some (.int 6 t) := by obtain ⟨h, X, G, c, _⟩ := F.ex; exact He.int_ok X G (c.d.fact 53 (f := .int "MOST_FLOORS" 6) rfl)
theorem c_MOST_EVERY (F : Fx w K mg) : ∃ t, mg ("MOST_EVERY" : Str) = some (.int 60 t) := by obtain ⟨h, X, G, c, _⟩ := F.ex; exact He.int_ok X G (c.d.fact 54 (f := .int "MOST_EVERY" 60) rfl)
theorem c_MOST_MINUTE (F : Fx w K mg) : ∃ t, mg ("MOST_MINUTE" : Str) = some (.int 1000000000000000000 t) := by obtain ⟨h, X, G, c, _⟩ := F.ex; exact He.int_ok X G (c.d.fact 55 (f := .int "MOST_MINUTE" 1000000000000000000) rfl)
theorem x_SchoolError (F : Fx w K mg) : PySem.W.excIn K (He.ga K "SchoolError") He.veBase "ValueError.__new__" = true ∧ PySem.W.keepIn K (.ref (He.ga K "SchoolError")) = true ∧ PySem.W.subIn K (.ref (He.ga K "SchoolError")) (.type "BaseException") = some true ∧ PySem.W.typeIn K (.ref (He.ga K "SchoolError")) = some (.type "type") := by obtain ⟨h, X, G, c, _⟩ := F.ex; exact He.exc_ok (c.d.fact 56 (f := .exc "SchoolError") rfl)
theorem x_NoBells (F : Fx w K mg) : PySem.W.excIn K (He.ga K "NoBells") He.veBase "ValueError.__new__" = true ∧ PySem.W.keepIn K (.ref (He.ga K "NoBells")) = true ∧ PySem.W.subIn K (.ref (He.ga K "NoBells")) (.type "BaseException") = some true ∧ PySem.W.typeIn K (.ref (He.ga K "NoBells")) = some (.type "type") := by obtain ⟨h, X, G, c, _⟩ := F.ex; exact He.exc_ok (c.d.fact 57 (f := .exc "NoBells") rfl)
theorem x_NoFloor (F : Fx w K mg) : PySem.W.excIn K (He.ga K "NoFloor") He.veBase "ValueError.__new__" = true ∧ PySem.W.keepIn K (.ref (He.ga K "NoFloor")) = true ∧ PySem.W.subIn K (.ref (He.ga K "NoFloor")) (.type "BaseException") = some true ∧ PySem.W.typeIn K (.ref (He.ga K "NoFloor")) = some (.type "type") := by obtain ⟨h, X, G, c, _⟩ := F.ex; exact He.exc_ok (c.d.fact 58 (f := .exc "NoFloor") rfl)
theorem x_NoLengths (F : Fx w K mg) : PySem.W.excIn K (He.ga K "NoLengths") He.veBase "ValueError.__new__" = true ∧ PySem.W.keepIn K (.ref (He.ga K "NoLengths")) = true ∧ PySem.W.subIn K (.ref (He.ga K "NoLengths")) (.type "BaseException") = some true ∧ PySem.W.typeIn K (.ref (He.ga K "NoLengths")) = some (.type "type") := by obtain ⟨h, X, G, c, _⟩ := F.ex; exact He.exc_ok (c.d.fact 59 (f := .exc "NoLengths") rfl)
theorem x_NoMinute (F : Fx w K mg) : PySem.W.excIn K (He.ga K "NoMinute") He.veBase "ValueError.__new__" = true ∧ PySem.W.keepIn K (.ref (He.ga K "NoMinute")) = true ∧ PySem.W.subIn K (.ref (He.ga K "NoMinute")) (.type "BaseException") = some true ∧ PySem.W.typeIn K (.ref (He.ga K "NoMinute")) = some (.type "type") := by obtain ⟨h, X, G, c, _⟩ := F.ex; exact He.exc_ok (c.d.fact 60 (f := .exc "NoMinute") rfl)
theorem x_NoNumber (F : Fx w K mg) : PySem.W.excIn K (He.ga K "NoNumber") He.veBase "ValueError.__new__" = true ∧ PySem.W.keepIn K (.ref (He.ga K "NoNumber")) = true ∧ PySem.W.subIn K (.ref (He.ga K "NoNumber")) (.type "BaseException") = some true ∧ PySem.W.typeIn K (.ref (He.ga K "NoNumber")) = some (.type "type") := by obtain ⟨h, X, G, c, _⟩ := F.ex; exact He.exc_ok (c.d.fact 61 (f := .exc "NoNumber") rfl)
theorem f_is_integer (F : Fx w K mg) : ∃ fd, FunD K "is_integer" "is_integer" (defArgs (top 1)) (defBody (top 1)) (defScope (top 1)) [] [] (He.ga K "is_integer") fd := by obtain ⟨h, X, G, c, _⟩ := F.ex; exact c.d.def_ 0 (d := d_is_integer) rfl
theorem f_is_within (F : Fx w K mg) : ∃ fd, FunD K "is_within" "is_within" (defArgs (top 2)) (defBody (top 2)) (defScope (top 2)) [] [] (He.ga K "is_within") fd := by obtain ⟨h, X, G, c, _⟩ := F.ex; exact c.d.def_ 1 (d := d_is_within) rfl
theorem f_is_sized (F : Fx w K mg) : ∃ fd, FunD K "is_sized" "is_sized" (defArgs (top 3)) (defBody (top 3)) (defScope (top 3)) [] [] (He.ga K "is_sized") fd := by obtain ⟨h, X, G, c, _⟩ := F.ex; exact c.d.def_ 2 (d := d_is_sized) rfl
theorem f_is_bell (F : Fx w K mg) : ∃ fd, FunD K "is_bell" "is_bell" (defArgs (top 16)) (defBody (top 16)) (defScope (top 16)) [] [] (He.ga K "is_bell") fd := by obtain ⟨h, X, G, c, _⟩ := F.ex; exact c.d.def_ 3 (d := d_is_bell) rfl
theorem f_check_bells (F : Fx w K mg) : ∃ fd, FunD K "check_bells" "check_bells" (defArgs (top 17)) (defBody (top 17)) (defScope (top 17)) [] [] (He.ga K "check_bells") fd := by obtain ⟨h, X, G, c, _⟩ := F.ex; exact c.d.def_ 4 (d := d_check_bells) rfl
theorem f_check_minute (F : Fx w K mg) : ∃ fd, FunD K "check_minute" "check_minute" (defArgs (top 18)) (defBody (top 18)) (defScope (top 18)) [] [] (He.ga K "check_minute") fd := by obtain ⟨h, X, G, c, _⟩ := F.ex; exact c.d.def_ 5 (d := d_check_minute) rfl
theorem f_raw_rings (F : Fx w K mg) : ∃ fd, FunD K "raw_rings" "raw_rings" (defArgs (top 19)) (defBody (top 19)) (defScope (top 19)) [] [] (He.ga K "raw_rings") fd := by obtain ⟨h, X, G, c, _⟩ := F.ex; exact c.d.def_ 6 (d := d_raw_rings) rfl
theorem f_rings_at (F : Fx w K mg) : ∃ fd, FunD K "rings_at" "rings_at" (defArgs (top 20)) (defBody (top 20)) (defScope (top 20)) [] [] (He.ga K "rings_at") fd := by obtain ⟨h, X, G, c, _⟩ := F.ex; exact c.d.def_ 7 (d := d_rings_at) rfl
theorem f_next_ring (F : Fx w K mg) : ∃ fd, FunD K "next_ring" "next_ring" (defArgs (top 21)) (defBody (top 21)) (defScope (top 21)) [] [] (He.ga K "next_ring") fd := by obtain ⟨h, X, G, c, _⟩ := F.ex; exact c.d.def_ 8 (d := d_next_ring) rfl
theorem f_common_divisor (F : Fx w K mg) : ∃ fd, FunD K "common_divisor" "common_divisor" (defArgs (top 22)) (defBody (top 22)) (defScope (top 22)) [] [] (He.ga K "common_divisor") fd := by obtain ⟨h, X, G, c, _⟩ := F.ex; exact c.d.def_ 9 (d := d_common_divisor) rfl
theorem f_raw_round (F : Fx w K mg) : ∃ fd, FunD K "raw_round" "raw_round" (defArgs (top 23)) (defBody (top 23)) (defScope (top 23)) [] [] (He.ga K "raw_round") fd := by obtain ⟨h, X, G, c, _⟩ := F.ex; exact c.d.def_ 10 (d := d_raw_round) rfl
theorem f_round_of_bells (F : Fx w K mg) : ∃ fd, FunD K "round_of_bells" "round_of_bells" (defArgs (top 24)) (defBody (top 24)) (defScope (top 24)) [] [] (He.ga K "round_of_bells") fd := by obtain ⟨h, X, G, c, _⟩ := F.ex; exact c.d.def_ 11 (d := d_round_of_bells) rfl
theorem f_never_meet (F : Fx w K mg) : ∃ fd, FunD K "never_meet" "never_meet" (defArgs (top 25)) (defBody (top 25)) (defScope (top 25)) [] [] (He.ga K "never_meet") fd := by obtain ⟨h, X, G, c, _⟩ := F.ex; exact c.d.def_ 12 (d := d_never_meet) rfl
theorem f_strangers (F : Fx w K mg) : ∃ fd, FunD K "strangers" "strangers" (defArgs (top 26)) (defBody (top 26)) (defScope (top 26)) [] [] (He.ga K "strangers") fd := by obtain ⟨h, X, G, c, _⟩ := F.ex; exact c.d.def_ 13 (d := d_strangers) rfl
theorem f_first_meeting (F : Fx w K mg) : ∃ fd, FunD K "first_meeting" "first_meeting" (defArgs (top 27)) (defBody (top 27)) (defScope (top 27)) [] [] (He.ga K "first_meeting") fd := by obtain ⟨h, X, G, c, _⟩ := F.ex; exact c.d.def_ 14 (d := d_first_meeting) rfl
theorem f_count_together (F : Fx w K mg) : ∃ fd, FunD K "count_together" "count_together" (defArgs (top 28)) (defBody (top 28)) (defScope (top 28)) [] [] (He.ga K "count_together") fd := by obtain ⟨h, X, G, c, _⟩ := F.ex; exact c.d.def_ 15 (d := d_count_together) rfl
theorem f_together_count (F : Fx w K mg) : ∃ fd, FunD K "together_count" "together_count" (defArgs (top 29)) (defBody (top 29)) (defScope (top 29)) [] [] (He.ga K "together_count") fd := by obtain ⟨h, X, G, c, _⟩ := F.ex; exact c.d.def_ 16 (d := d_together_count) rfl
theorem f_bell_lots (F : Fx w K mg) : ∃ fd, FunD K "bell_lots" "bell_lots" (defArgs (top 30)) (defBody (top 30)) (defScope (top 30)) [] [] (He.ga K "bell_lots") fd := by obtain ⟨h, X, G, c, _⟩ := F.ex; exact c.d.def_ 17 (d := d_bell_lots) rfl
theorem f_raw_count (F : Fx w K mg) : ∃ fd, FunD K "raw_count" "raw_count" (defArgs (top 31)) (defBody (top 31)) (defScope (top 31)) [] [] (He.ga K "raw_count") fd := by obtain ⟨h, X, G, c, _⟩ := F.ex; exact c.d.def_ 18 (d := d_raw_count) rfl
theorem f_ring_count (F : Fx w K mg) : ∃ fd, FunD K "ring_count" "ring_count" (defArgs (top 32)) (defBody (top 32)) (defScope (top 32)) [] [] (He.ga K "ring_count") fd := by obtain ⟨h, X, G, c, _⟩ := F.ex; exact c.d.def_ 19 (d := d_ring_count) rfl
theorem f_alone_count (F : Fx w K mg) : ∃ fd, FunD K "alone_count" "alone_count" (defArgs (top 33)) (defBody (top 33)) (defScope (top 33)) [] [] (He.ga K "alone_count") fd := by obtain ⟨h, X, G, c, _⟩ := F.ex; exact c.d.def_ 20 (d := d_alone_count) rfl
theorem f__law_hand (F : Fx w K mg) : ∃ fd, FunD K "_law_hand" "_law_hand" (defArgs (top 35)) (defBody (top 35)) (defScope (top 35)) [] [] (He.ga K "_law_hand") fd := by obtain ⟨h, X, G, c, _⟩ := F.ex; exact c.d.def_ 21 (d := d__law_hand) rfl
theorem f__law_draw (F : Fx w K mg) : ∃ fd, FunD K "_law_draw" "_law_draw" (defArgs (top 36)) (defBody (top 36)) (defScope (top 36)) [] [] (He.ga K "_law_draw") fd := by obtain ⟨h, X, G, c, _⟩ := F.ex; exact c.d.def_ 22 (d := d__law_draw) rfl
theorem f__law_any (F : Fx w K mg) : ∃ fd, FunD K "_law_any" "_law_any" (defArgs (top 37)) (defBody (top 37)) (defScope (top 37)) [] [] (He.ga K "_law_any") fd := by obtain ⟨h, X, G, c, _⟩ := F.ex; exact c.d.def_ 23 (d := d__law_any) rfl
theorem f__law_bells (F : Fx w K mg) : ∃ fd, FunD K "_law_bells" "_law_bells" (defArgs (top 38)) (defBody (top 38)) (defScope (top 38)) [] [] (He.ga K "_law_bells") fd := by obtain ⟨h, X, G, c, _⟩ := F.ex; exact c.d.def_ 24 (d := d__law_bells) rfl
theorem f__law_round (F : Fx w K mg) : ∃ fd, FunD K "_law_round" "_law_round" (defArgs (top 39)) (defBody (top 39)) (defScope (top 39)) [] [] (He.ga K "_law_round") fd := by obtain ⟨h, X, G, c, _⟩ := F.ex; exact c.d.def_ 25 (d := d__law_round) rfl
theorem f__law_rings (F : Fx w K mg) : ∃ fd, FunD K "_law_rings" "_law_rings" (defArgs (top 40)) (defBody (top 40)) (defScope (top 40)) [] [] (He.ga K "_law_rings") fd := by obtain ⟨h, X, G, c, _⟩ := F.ex; exact c.d.def_ 26 (d := d__law_rings) rfl
theorem f__law_bad_bells (F : Fx w K mg) : ∃ fd, FunD K "_law_bad_bells" "_law_bad_bells" (defArgs (top 41)) (defBody (top 41)) (defScope (top 41)) [] [] (He.ga K "_law_bad_bells") fd := by obtain ⟨h, X, G, c, _⟩ := F.ex; exact c.d.def_ 27 (d := d__law_bad_bells) rfl
theorem f__law_word (F : Fx w K mg) : ∃ fd, FunD K "_law_word" "_law_word" (defArgs (top 42)) (defBody (top 42)) (defScope (top 42)) [] [] (He.ga K "_law_word") fd := by obtain ⟨h, X, G, c, _⟩ := F.ex; exact c.d.def_ 28 (d := d__law_word) rfl
theorem f__law_counts (F : Fx w K mg) : ∃ fd, FunD K "_law_counts" "_law_counts" (defArgs (top 43)) (defBody (top 43)) (defScope (top 43)) [] [] (He.ga K "_law_counts") fd := by obtain ⟨h, X, G, c, _⟩ := F.ex; exact c.d.def_ 29 (d := d__law_counts) rfl
theorem f__law_told (F : Fx w K mg) : ∃ fd, FunD K "_law_told" "_law_told" (defArgs (top 44)) (defBody (top 44)) (defScope (top 44)) [] [] (He.ga K "_law_told") fd := by obtain ⟨h, X, G, c, _⟩ := F.ex; exact c.d.def_ 30 (d := d__law_told) rfl
theorem f__law_refused_right (F : Fx w K mg) : ∃ fd, FunD K "_law_refused_right" "_law_refused_right" (defArgs (top 45)) (defBody (top 45)) (defScope (top 45)) [] [] (He.ga K "_law_refused_right") fd := by obtain ⟨h, X, G, c, _⟩ := F.ex; exact c.d.def_ 31 (d := d__law_refused_right) rfl
theorem f_law (F : Fx w K mg) : ∃ fd, FunD K "law" "law" (defArgs (top 46)) (defBody (top 46)) (defScope (top 46)) [] [] (He.ga K "law") fd := by obtain ⟨h, X, G, c, _⟩ := F.ex; exact c.d.def_ 32 (d := d_law) rfl
end
def catL : List Str := ["NoBells", "NoFloor", "NoMinute"]
theorem cat_cases {P : Str → Prop} (h0 : P "NoBells") (h1 : P "NoFloor") (h2 : P "NoMinute") : ∀ s ∈ catL, P s := by
  intro s h
  simp only [catL, List.mem_cons, List.not_mem_nil, or_false] at h
  rcases h with h | h | h
  · rw [h]; exact h0
  · rw [h]; exact h1
  · rw [h]; exact h2
section
variable {w : World} {K : Kf} {mg : Str → Option Value}
def sub_NoBells : List Str := ["NoBells"]
def cat_NoBells (s : Str) : Option Bool := if s ∈ catL then some (decide (s ∈ sub_NoBells)) else none
theorem hcat_NoBells (F : Fx w K mg) : ∀ s b, cat_NoBells s = some b → PySem.W.exmOne K (.ref (He.ga K s)) (.ref (He.ga K "NoBells")) = some b := by
  intro s b h
  unfold cat_NoBells at h
  split at h
  · rename_i hs
    rw [← h]
    exact cat_cases (P := fun s => PySem.W.exmOne K (.ref (He.ga K s)) (.ref (He.ga K "NoBells")) = some (decide (s ∈ sub_NoBells))) (by rw [show decide (("NoBells" : Str) ∈ sub_NoBells) = true from by decide +kernel]; exact of_decide_eq_true (e_ok F (j := 0) rfl)) (by rw [show decide (("NoFloor" : Str) ∈ sub_NoBells) = false from by decide +kernel]; exact of_decide_eq_true (e_ok F (j := 1) rfl)) (by rw [show decide (("NoMinute" : Str) ∈ sub_NoBells) = false from by decide +kernel]; exact of_decide_eq_true (e_ok F (j := 2) rfl)) s hs
  · cases h
def sub_NoFloor : List Str := ["NoFloor"]
def cat_NoFloor (s : Str) : Option Bool := if s ∈ catL then some (decide (s ∈ sub_NoFloor)) else none
theorem hcat_NoFloor (F : Fx w K mg) : ∀ s b, cat_NoFloor s = some b → PySem.W.exmOne K (.ref (He.ga K s)) (.ref (He.ga K "NoFloor")) = some b := by
  intro s b h
  unfold cat_NoFloor at h
  split at h
  · rename_i hs
    rw [← h]
    exact cat_cases (P := fun s => PySem.W.exmOne K (.ref (He.ga K s)) (.ref (He.ga K "NoFloor")) = some (decide (s ∈ sub_NoFloor))) (by rw [show decide (("NoBells" : Str) ∈ sub_NoFloor) = false from by decide +kernel]; exact of_decide_eq_true (e_ok F (j := 3) rfl)) (by rw [show decide (("NoFloor" : Str) ∈ sub_NoFloor) = true from by decide +kernel]; exact of_decide_eq_true (e_ok F (j := 4) rfl)) (by rw [show decide (("NoMinute" : Str) ∈ sub_NoFloor) = false from by decide +kernel]; exact of_decide_eq_true (e_ok F (j := 5) rfl)) s hs
  · cases h
def sub_NoLengths : List Str := []
def cat_NoLengths (s : Str) : Option Bool := if s ∈ catL then some (decide (s ∈ sub_NoLengths)) else none
theorem hcat_NoLengths (F : Fx w K mg) : ∀ s b, cat_NoLengths s = some b → PySem.W.exmOne K (.ref (He.ga K s)) (.ref (He.ga K "NoLengths")) = some b := by
  intro s b h
  unfold cat_NoLengths at h
  split at h
  · rename_i hs
    rw [← h]
    exact cat_cases (P := fun s => PySem.W.exmOne K (.ref (He.ga K s)) (.ref (He.ga K "NoLengths")) = some (decide (s ∈ sub_NoLengths))) (by rw [show decide (("NoBells" : Str) ∈ sub_NoLengths) = false from by decide +kernel]; exact of_decide_eq_true (e_ok F (j := 6) rfl)) (by rw [show decide (("NoFloor" : Str) ∈ sub_NoLengths) = false from by decide +kernel]; exact of_decide_eq_true (e_ok F (j := 7) rfl)) (by rw [show decide (("NoMinute" : Str) ∈ sub_NoLengths) = false from by decide +kernel]; exact of_decide_eq_true (e_ok F (j := 8) rfl)) s hs
  · cases h
def sub_NoMinute : List Str := ["NoMinute"]
def cat_NoMinute (s : Str) : Option Bool := if s ∈ catL then some (decide (s ∈ sub_NoMinute)) else none
theorem hcat_NoMinute (F : Fx w K mg) : ∀ s b, cat_NoMinute s = some b → PySem.W.exmOne K (.ref (He.ga K s)) (.ref (He.ga K "NoMinute")) = some b := by
  intro s b h
  unfold cat_NoMinute at h
  split at h
  · rename_i hs
    rw [← h]
    exact cat_cases (P := fun s => PySem.W.exmOne K (.ref (He.ga K s)) (.ref (He.ga K "NoMinute")) = some (decide (s ∈ sub_NoMinute))) (by rw [show decide (("NoBells" : Str) ∈ sub_NoMinute) = false from by decide +kernel]; exact of_decide_eq_true (e_ok F (j := 9) rfl)) (by rw [show decide (("NoFloor" : Str) ∈ sub_NoMinute) = false from by decide +kernel]; exact of_decide_eq_true (e_ok F (j := 10) rfl)) (by rw [show decide (("NoMinute" : Str) ∈ sub_NoMinute) = true from by decide +kernel]; exact of_decide_eq_true (e_ok F (j := 11) rfl)) s hs
  · cases h
def sub_NoNumber : List Str := []
def cat_NoNumber (s : Str) : Option Bool := if s ∈ catL then some (decide (s ∈ sub_NoNumber)) else none
theorem hcat_NoNumber (F : Fx w K mg) : ∀ s b, cat_NoNumber s = some b → PySem.W.exmOne K (.ref (He.ga K s)) (.ref (He.ga K "NoNumber")) = some b := by
  intro s b h
  unfold cat_NoNumber at h
  split at h
  · rename_i hs
    rw [← h]
    exact cat_cases (P := fun s => PySem.W.exmOne K (.ref (He.ga K s)) (.ref (He.ga K "NoNumber")) = some (decide (s ∈ sub_NoNumber))) (by rw [show decide (("NoBells" : Str) ∈ sub_NoNumber) = false from by decide +kernel]; exact of_decide_eq_true (e_ok F (j := 12) rfl)) (by rw [show decide (("NoFloor" : Str) ∈ sub_NoNumber) = false from by decide +kernel]; exact of_decide_eq_true (e_ok F (j := 13) rfl)) (by rw [show decide (("NoMinute" : Str) ∈ sub_NoNumber) = false from by decide +kernel]; exact of_decide_eq_true (e_ok F (j := 14) rfl)) s hs
  · cases h
def sub_TooMany : List Str := []
def cat_TooMany (s : Str) : Option Bool := if s ∈ catL then some (decide (s ∈ sub_TooMany)) else none
theorem hcat_TooMany (F : Fx w K mg) : ∀ s b, cat_TooMany s = some b → PySem.W.exmOne K (.ref (He.ga K s)) (.ref (He.ga K "TooMany")) = some b := by
  intro s b h
  unfold cat_TooMany at h
  split at h
  · rename_i hs
    rw [← h]
    exact cat_cases (P := fun s => PySem.W.exmOne K (.ref (He.ga K s)) (.ref (He.ga K "TooMany")) = some (decide (s ∈ sub_TooMany))) (by rw [show decide (("NoBells" : Str) ∈ sub_TooMany) = false from by decide +kernel]; exact of_decide_eq_true (e_ok F (j := 15) rfl)) (by rw [show decide (("NoFloor" : Str) ∈ sub_TooMany) = false from by decide +kernel]; exact of_decide_eq_true (e_ok F (j := 16) rfl)) (by rw [show decide (("NoMinute" : Str) ∈ sub_TooMany) = false from by decide +kernel]; exact of_decide_eq_true (e_ok F (j := 17) rfl)) s hs
  · cases h
def cat_ALL (s : Str) : Option Bool := if s ∈ catL then some true else none
theorem cm_ALL {s : Str} (h : cat_ALL s = some true) : s ∈ catL := by
  unfold cat_ALL at h
  split at h
  · assumption
  · cases h
theorem kn_NoBells {x : Ec} (h : Known cat_NoBells x) : Known cat_ALL x := by
  unfold Known cat_NoBells at h
  unfold Known cat_ALL
  split at h
  · rename_i m
    rw [if_pos m]
  · cases h
theorem kn_NoFloor {x : Ec} (h : Known cat_NoFloor x) : Known cat_ALL x := by
  unfold Known cat_NoFloor at h
  unfold Known cat_ALL
  split at h
  · rename_i m
    rw [if_pos m]
  · cases h
theorem kn_NoLengths {x : Ec} (h : Known cat_NoLengths x) : Known cat_ALL x := by
  unfold Known cat_NoLengths at h
  unfold Known cat_ALL
  split at h
  · rename_i m
    rw [if_pos m]
  · cases h
theorem kn_NoMinute {x : Ec} (h : Known cat_NoMinute x) : Known cat_ALL x := by
  unfold Known cat_NoMinute at h
  unfold Known cat_ALL
  split at h
  · rename_i m
    rw [if_pos m]
  · cases h
theorem kn_NoNumber {x : Ec} (h : Known cat_NoNumber x) : Known cat_ALL x := by
  unfold Known cat_NoNumber at h
  unfold Known cat_ALL
  split at h
  · rename_i m
    rw [if_pos m]
  · cases h
theorem kn_TooMany {x : Ec} (h : Known cat_TooMany x) : Known cat_ALL x := by
  unfold Known cat_TooMany at h
  unfold Known cat_ALL
  split at h
  · rename_i m
    rw [if_pos m]
  · cases h
theorem xC (F : Fx w K mg) (x : Ec) (hk : Known cat_ALL x) : ExcC K (He.ga K x.cls) := cat_cases (P := fun s => ExcC K (He.ga K s)) (excB_ok (e_ok F (j := 18) rfl)) (excB_ok (e_ok F (j := 19) rfl)) (excB_ok (e_ok F (j := 20) rfl)) x.cls (cm_ALL hk)
def is_SchoolError (s : Str) : Bool := decide (s = "NoBells") || decide (s = "NoFloor") || decide (s = "NoMinute")
theorem k_SchoolError (F : Fx w K mg) (x : Ec) (hk : Known cat_ALL x) : PySem.W.kitOne K (.ref (He.ga K x.cls)) (.ref (He.ga K "SchoolError")) = some (is_SchoolError x.cls) := cat_cases (P := fun s => PySem.W.kitOne K (.ref (He.ga K s)) (.ref (He.ga K "SchoolError")) = some (is_SchoolError s)) (by rw [show is_SchoolError "NoBells" = true from by decide]; exact of_decide_eq_true (e_ok F (j := 21) rfl)) (by rw [show is_SchoolError "NoFloor" = true from by decide]; exact of_decide_eq_true (e_ok F (j := 22) rfl)) (by rw [show is_SchoolError "NoMinute" = true from by decide]; exact of_decide_eq_true (e_ok F (j := 23) rfl)) x.cls (cm_ALL hk)
theorem nd_tf (F : Fx w K mg) : (tf.map fun p => (He.cT K p).2).Nodup := of_decide_eq_true (e_ok F (j := 24) rfl)
end
section
variable {P : Program} {w : World} {K : Kf} {mg : Str → Option Value} {base : Heap} {Tb : Tbs}
theorem s_is_integer : FnScope ["thing"] ["thing"] (defScope (top 1)) := ⟨rfl, rfl, rfl, by decide +kernel, rfl, by decide +kernel, by decide +kernel⟩
def b_is_integer : En → RS := (sSeq (sRet (qAnd (qIsi .int (qv 0)) (qNot (qIsi .bool (qv 0)))))
  sNx)
def m_is_integer (ds : List Dt) : R Dt := fin (b_is_integer (entE ds 0))
theorem ok_is_integer (F : Fx w K mg) : ∃ fd, FnP GdT P w K mg base 1 (He.ga K "is_integer") fd ["thing"] (spF K Tb .z 1 m_is_integer) ∧ PySem.W.keepIn K (.ref (He.ga K "is_integer")) = true ∧ Binds K fd ["thing"] [] := by
  obtain ⟨fd, D⟩ := f_is_integer F
  refine ⟨fd, ?_, D.kp, D.bindsN fun _ _ _ _ _ _ us hl => match us, hl with | [_], _ => rfl⟩
  refine ok_defP (n := 1) (l := 0) (G' := [.z]) (Lp := []) (mb := b_is_integer) gdT D s_is_integer rfl rfl rfl (fun _ => rfl) (fun h => by cases h) ?_
  intro cdv A outer s H S E hcd B
  have nd : (["thing"] : List Str).Nodup := by decide +kernel
  change VSs _ _ _ _ _ [.z] _ _ _ _
  exact (vss_cons (G1 := [.z]) (by exact (vs_ret (vq_and (vq_isi .int (vq_z 0) (by rfl) (n_isinstance F) (by rfl) (n_int F) (by decide +kernel)) (vq_one (vq_not (vq_isi .bool (vq_z 0) (by rfl) (n_isinstance F) (by rfl) (n_bool F) (by decide +kernel))))) (.inl rfl)))
  (by exact vss_nil))
theorem s_is_within : FnScope ["thing", "low", "high"] ["thing", "low", "high"] (defScope (top 2)) := ⟨rfl, rfl, rfl, by decide +kernel, rfl, by decide +kernel, by decide +kernel⟩
def b_is_within : En → RS := (sSeq (sRet (qAnd (qF m_is_integer (lcons (qv 0) lnil)) (qChB leD leD (qv 1) (qv 0) (qv 2))))
  sNx)
def m_is_within (ds : List Dt) : R Dt := fin (b_is_within (entE ds 0))
theorem ok_is_within (F : Fx w K mg) : ∃ fd, FnP GdT P w K mg base 2 (He.ga K "is_within") fd ["thing", "low", "high"] (spF K Tb .z 3 m_is_within) ∧ PySem.W.keepIn K (.ref (He.ga K "is_within")) = true ∧ Binds K fd ["thing", "low", "high"] [] := by
  obtain ⟨fd, D⟩ := f_is_within F
  obtain ⟨fd_is_integer, c_is_integer, k_is_integer, b_is_integer⟩ := ok_is_integer (P := P) (base := base) (Tb := Tb) F
  refine ⟨fd, ?_, D.kp, D.bindsN fun _ _ _ _ _ _ us hl => match us, hl with | [_, _, _], _ => rfl⟩
  refine ok_defP (n := 3) (l := 0) (G' := [.z, .z, .z]) (Lp := []) (mb := b_is_within) gdT D s_is_within rfl rfl rfl (fun _ => rfl) (fun h => by cases h) ?_
  intro cdv A outer s H S E hcd B
  have nd : (["thing", "low", "high"] : List Str).Nodup := by decide +kernel
  change VSs _ _ _ _ _ [.z, .z, .z] _ _ _ _
  exact (vss_cons (G1 := [.z, .z, .z]) (by exact (vs_ret (vq_and (nq_call (t := false) (f0 := .z) (c_is_integer.mono (k := 1) (by decide)) (by exact B.rm) (by exact trivial) (g_is_integer F) k_is_integer b_is_integer (by exact B.px) (an_cons (fa := .z) (vq_z 0) an_nil)) (vq_one (vq_chain op_le op_le leD_ok leD_ok (vq_z 1) (vq_z 0) (vq_z 2)))) (.inl rfl)))
  (by exact vss_nil))
theorem s_is_sized : FnScope ["thing", "low", "high"] ["thing", "low", "high"] (defScope (top 3)) := ⟨rfl, rfl, rfl, by decide +kernel, rfl, by decide +kernel, by decide +kernel⟩
def b_is_sized : En → RS := (sSeq (sRet (qAnd (qIsi .tuple (qv 0)) (qChB leD leD (qv 1) (qC lenD (lcons (qv 0) lnil)) (qv 2))))
  sNx)
def m_is_sized (ds : List Dt) : R Dt := fin (b_is_sized (entE ds 0))
theorem ok_is_sized (F : Fx w K mg) : ∃ fd, FnP GdT P w K mg base 1 (He.ga K "is_sized") fd ["thing", "low", "high"] (spF K Tb .z 3 m_is_sized) ∧ PySem.W.keepIn K (.ref (He.ga K "is_sized")) = true ∧ Binds K fd ["thing", "low", "high"] [] := by
  obtain ⟨fd, D⟩ := f_is_sized F
  refine ⟨fd, ?_, D.kp, D.bindsN fun _ _ _ _ _ _ us hl => match us, hl with | [_, _, _], _ => rfl⟩
  refine ok_defP (n := 3) (l := 0) (G' := [.z, .z, .z]) (Lp := []) (mb := b_is_sized) gdT D s_is_sized rfl rfl rfl (fun _ => rfl) (fun h => by cases h) ?_
  intro cdv A outer s H S E hcd B
  have nd : (["thing", "low", "high"] : List Str).Nodup := by decide +kernel
  change VSs _ _ _ _ _ [.z, .z, .z] _ _ _ _
  exact (vss_cons (G1 := [.z, .z, .z]) (by exact (vs_ret (vq_and (vq_isi .tuple (vq_z 0) (by rfl) (n_isinstance F) (by rfl) (n_tuple F) (by decide +kernel)) (vq_one (vq_chain op_le op_le leD_ok leD_ok (vq_z 1) (nq_callB call_lenA lenD_ok (n_len F) (an_cons (fa := .z) (vq_z 0) an_nil)) (vq_z 2)))) (.inl rfl)))
  (by exact vss_nil))
theorem s_is_bell : FnScope ["thing"] ["thing"] (defScope (top 16)) := ⟨rfl, rfl, rfl, by decide +kernel, rfl, by decide +kernel, by decide +kernel⟩
def b_is_bell : En → RS := (sSeq (sRet (qAnd (qF m_is_sized (lcons (qv 0) (lcons (qc (.int 2)) (lcons (qc (.int 2)) lnil)))) (qAnd (qF m_is_within (lcons (q2 ixD (qv 0) (qc (.int 0))) (lcons (qc (.int 1)) (lcons (qc (.int 60)) lnil)))) (qF m_is_within (lcons (q2 ixD (qv 0) (qc (.int 1))) (lcons (qc (.int 0)) (lcons (q2 subD (q2 ixD (qv 0) (qc (.int 0))) (qc (.int 1))) lnil)))))))
  sNx)
def m_is_bell (ds : List Dt) : R Dt := fin (b_is_bell (entE ds 0))
theorem ok_is_bell (F : Fx w K mg) : ∃ fd, FnP GdT P w K mg base 3 (He.ga K "is_bell") fd ["thing"] (spF K Tb .z 1 m_is_bell) ∧ PySem.W.keepIn K (.ref (He.ga K "is_bell")) = true ∧ Binds K fd ["thing"] [] := by
  obtain ⟨fd, D⟩ := f_is_bell F
  obtain ⟨fd_is_sized, c_is_sized, k_is_sized, b_is_sized⟩ := ok_is_sized (P := P) (base := base) (Tb := Tb) F
  obtain ⟨fd_is_within, c_is_within, k_is_within, b_is_within⟩ := ok_is_within (P := P) (base := base) (Tb := Tb) F
  refine ⟨fd, ?_, D.kp, D.bindsN fun _ _ _ _ _ _ us hl => match us, hl with | [_], _ => rfl⟩
  refine ok_defP (n := 1) (l := 0) (G' := [.z]) (Lp := []) (mb := b_is_bell) gdT D s_is_bell rfl rfl rfl (fun _ => rfl) (fun h => by cases h) ?_
  intro cdv A outer s H S E hcd B
  have nd : (["thing"] : List Str).Nodup := by decide +kernel
  change VSs _ _ _ _ _ [.z] _ _ _ _
  exact (vss_cons (G1 := [.z]) (by exact (vs_ret (vq_and (nq_call (t := false) (f0 := .z) (c_is_sized.mono (k := 2) (by decide)) (by exact B.rm) (by exact trivial) (g_is_sized F) k_is_sized b_is_sized (by exact B.px) (an_cons (fa := .z) (vq_z 0) (an_cons (fa := .z) vq_int (an_cons (fa := .z) vq_int an_nil)))) (vq_and (nq_call (t := false) (f0 := .z) (c_is_within.mono (k := 2) (by decide)) (by exact B.rm) (by exact trivial) (g_is_within F) k_is_within b_is_within (by exact B.px) (an_cons (fa := .z) (vq_ix (fa := .z) (fb := .z) (vq_z 0) vq_int) (an_cons (fa := .z) vq_int (an_cons (fa := .z) (vq_gint (by rfl) (c_MOST_EVERY F)) an_nil)))) (vq_one (nq_call (t := false) (f0 := .z) (c_is_within.mono (k := 2) (by decide)) (by exact B.rm) (by exact trivial) (g_is_within F) k_is_within b_is_within (by exact B.px) (an_cons (fa := .z) (vq_ix (fa := .z) (fb := .z) (vq_z 0) vq_int) (an_cons (fa := .z) vq_int (an_cons (fa := .z) (vq_op (fa := .z) (fb := .z) op_sub subD_ok (vq_ix (fa := .z) (fb := .z) (vq_z 0) vq_int) vq_int) an_nil))))))) (.inl rfl)))
  (by exact vss_nil))
theorem s_check_bells : FnScope ["bells", "one"] ["bells"] (defScope (top 17)) := ⟨rfl, rfl, rfl, by decide +kernel, rfl, by decide +kernel, by decide +kernel⟩
def b_check_bells : En → RS := (sSeq (sIf (bOr (bNot (qT (qF m_is_sized (lcons (qv 0) (lcons (qc (.int 1)) (lcons (qc (.int 6)) lnil)))))) (bNot (qT (qC allD (lcons (qLC (iSeq (qv 0)) [1] (gN 1) bYes (qF m_is_bell (lcons (qv 1) lnil))) lnil))))) (sSeq (sRaise "NoBells")
  sNx) sNx)
  sNx)
def m_check_bells (ds : List Dt) : R Dt := fin (b_check_bells (entE ds 1))
theorem ok_check_bells (F : Fx w K mg) : ∃ fd, FnP GdT P w K mg base 4 (He.ga K "check_bells") fd ["bells"] (spF K Tb .z 1 m_check_bells) ∧ PySem.W.keepIn K (.ref (He.ga K "check_bells")) = true ∧ Binds K fd ["bells"] [] := by
  obtain ⟨fd, D⟩ := f_check_bells F
  obtain ⟨fd_is_sized, c_is_sized, k_is_sized, b_is_sized⟩ := ok_is_sized (P := P) (base := base) (Tb := Tb) F
  obtain ⟨fd_is_bell, c_is_bell, k_is_bell, b_is_bell⟩ := ok_is_bell (P := P) (base := base) (Tb := Tb) F
  refine ⟨fd, ?_, D.kp, D.bindsN fun _ _ _ _ _ _ us hl => match us, hl with | [_], _ => rfl⟩
  refine ok_defP (n := 1) (l := 1) (G' := [.z, .dead]) (Lp := []) (mb := b_check_bells) gdT D s_check_bells rfl rfl rfl (fun _ => rfl) (fun h => by cases h) ?_
  intro cdv A outer s H S E hcd B
  have nd : (["bells", "one"] : List Str).Nodup := by decide +kernel
  change VSs _ _ _ _ _ [.z, .dead] _ _ _ _
  exact (vss_cons (G1 := [.z, .dead]) (by exact (vs_if (G' := [.z, .dead]) (vb_w (vw_or (vb_not (vb_val (nq_call (t := false) (f0 := .z) (c_is_sized.mono (k := 3) (by decide)) (by exact B.rm) (by exact trivial) (g_is_sized F) k_is_sized b_is_sized (by exact B.px) (an_cons (fa := .z) (vq_z 0) (an_cons (fa := .z) vq_int (an_cons (fa := .z) (vq_gint (by rfl) (c_MOST_FLOORS F)) an_nil)))))) (vw_or1 (vb_not (vb_val (nq_callB (cr_all (by exact B.calm)) allD_ok (n_all F) (an_cons (fa := .own) (vq_lc (sl := [1]) (by exact B.calm) nd (vi_seq (vq_z 0)) (blkOk_by (own := [("one", 1)]) (by rfl)) (fun _ _ _ _ _ => (vg_name 1 nd)) (fun _ _ _ _ _ => vts_nil) (fun _ _ _ _ _ => (nq_call (t := false) (f0 := .z) (c_is_bell.mono (k := 3) (by decide)) (by exact B.rm) (by exact trivial) (g_is_bell F) k_is_bell b_is_bell passes0 (an_cons (fa := .z) (vq_z 1) an_nil))) rfl (of_decide_eq_true rfl) (by decide)) an_nil))))))) (vss_end (G1 := [.z, .dead]) (vss_cons (G1 := [.z, .dead]) (by exact (vs_raise B.calm B.tk (pmk_own0 PySem.F.excBase_ValueError (x_NoBells F).1 (g_NoBells F) (x_NoBells F).2.1 (raises_own (x_NoBells F).2.2.1 (x_NoBells F).2.2.2) (by rfl))))
  (by exact vss_nil)) (nx1 nx_raise)) vss_nil))
  (by exact vss_nil))
theorem s_check_minute : FnScope ["bells", "minute"] ["bells", "minute"] (defScope (top 18)) := ⟨rfl, rfl, rfl, by decide +kernel, rfl, by decide +kernel, by decide +kernel⟩
def b_check_minute : En → RS := (sSeq (sExpr (qF m_check_bells (lcons (qv 0) lnil)))
  (sSeq (sIf (bNot (qT (qF m_is_within (lcons (qv 1) (lcons (qc (.int 0)) (lcons (qc (.int 1000000000000000000)) lnil)))))) (sSeq (sRaise "NoMinute")
  sNx) sNx)
  sNx))
def m_check_minute (ds : List Dt) : R Dt := fin (b_check_minute (entE ds 0))
theorem ok_check_minute (F : Fx w K mg) : ∃ fd, FnP GdT P w K mg base 5 (He.ga K "check_minute") fd ["bells", "minute"] (spF K Tb .z 2 m_check_minute) ∧ PySem.W.keepIn K (.ref (He.ga K "check_minute")) = true ∧ Binds K fd ["bells", "minute"] [] := by
  obtain ⟨fd, D⟩ := f_check_minute F
  obtain ⟨fd_check_bells, c_check_bells, k_check_bells, b_check_bells⟩ := ok_check_bells (P := P) (base := base) (Tb := Tb) F
  obtain ⟨fd_is_within, c_is_within, k_is_within, b_is_within⟩ := ok_is_within (P := P) (base := base) (Tb := Tb) F
  refine ⟨fd, ?_, D.kp, D.bindsN fun _ _ _ _ _ _ us hl => match us, hl with | [_, _], _ => rfl⟩
  refine ok_defP (n := 2) (l := 0) (G' := [.z, .z]) (Lp := []) (mb := b_check_minute) gdT D s_check_minute rfl rfl rfl (fun _ => rfl) (fun h => by cases h) ?_
  intro cdv A outer s H S E hcd B
  have nd : (["bells", "minute"] : List Str).Nodup := by decide +kernel
  change VSs _ _ _ _ _ [.z, .z] _ _ _ _
  exact (vss_cons (G1 := [.z, .z]) (by exact (vs_expr (fl := .z) (nq_call (t := false) (f0 := .z) (c_check_bells.mono (k := 4) (by decide)) (by exact B.rm) (by exact trivial) (g_check_bells F) k_check_bells b_check_bells (by exact B.px) (an_cons (fa := .z) (vq_z 0) an_nil))))
  (by exact (vss_cons (G1 := [.z, .z]) (by exact (vs_if (G' := [.z, .z]) (vb_not (vb_val (nq_call (t := false) (f0 := .z) (c_is_within.mono (k := 4) (by decide)) (by exact B.rm) (by exact trivial) (g_is_within F) k_is_within b_is_within (by exact B.px) (an_cons (fa := .z) (vq_z 1) (an_cons (fa := .z) vq_int (an_cons (fa := .z) (vq_gint (by rfl) (c_MOST_MINUTE F)) an_nil)))))) (vss_end (G1 := [.z, .z]) (vss_cons (G1 := [.z, .z]) (by exact (vs_raise B.calm B.tk (pmk_own0 PySem.F.excBase_ValueError (x_NoMinute F).1 (g_NoMinute F) (x_NoMinute F).2.1 (raises_own (x_NoMinute F).2.2.1 (x_NoMinute F).2.2.2) (by rfl))))
  (by exact vss_nil)) (nx1 nx_raise)) vss_nil))
  (by exact vss_nil))))
theorem s_raw_rings : FnScope ["bells", "minute", "floor", "every", "first"] ["bells", "minute"] (defScope (top 19)) := ⟨rfl, rfl, rfl, by decide +kernel, rfl, by decide +kernel, by decide +kernel⟩
def b_raw_rings : En → RS := (sSeq (sRet (qLC (iOf enumO (lcons (qv 0) lnil)) [2, 3, 4] (gTp (gsCons (gN 2) (gsCons (gTp (gsCons (gN 3) (gsCons (gN 4) gsNil))) gsNil))) (qT (q2 eqD (q2 modD (qv 1) (qv 3)) (qv 4))) (qv 2)))
  sNx)
def m_raw_rings (ds : List Dt) : R Dt := fin (b_raw_rings (entE ds 3))
theorem ok_raw_rings (F : Fx w K mg) : ∃ fd, FnP GdT P w K mg base 1 (He.ga K "raw_rings") fd ["bells", "minute"] (spF K Tb .z 2 m_raw_rings) ∧ PySem.W.keepIn K (.ref (He.ga K "raw_rings")) = true ∧ Binds K fd ["bells", "minute"] [] := by
  obtain ⟨fd, D⟩ := f_raw_rings F
  refine ⟨fd, ?_, D.kp, D.bindsN fun _ _ _ _ _ _ us hl => match us, hl with | [_, _], _ => rfl⟩
  refine ok_defP (n := 2) (l := 3) (G' := [.z, .z, .dead, .dead, .dead]) (Lp := []) (mb := b_raw_rings) gdT D s_raw_rings rfl rfl rfl (fun _ => rfl) (fun h => by cases h) ?_
  intro cdv A outer s H S E hcd B
  have nd : (["bells", "minute", "floor", "every", "first"] : List Str).Nodup := by decide +kernel
  change VSs _ _ _ _ _ [.z, .z, .dead, .dead, .dead] _ _ _ _
  exact (vss_cons (G1 := [.z, .z, .dead, .dead, .dead]) (by exact (vs_ret (vq_fz (vq_lc (sl := [2, 3, 4]) (by exact B.calm) nd (ni_enum (n_enumerate F) (an_cons (fa := .z) (vq_z 0) an_nil)) (blkOk_by (own := [("floor", 2), ("every", 3), ("first", 4)]) (by rfl)) (fun _ _ _ _ _ => (vg_tp (by exact B.calm) (vgs_cons (vg_name 2 nd) (vgs_cons (vg_tp (by exact B.calm) (vgs_cons (vg_name 3 nd) (vgs_cons (vg_name 4 nd) vgs_nil)) (gl_cons (gl_cons gl_nil))) vgs_nil)) (gl_cons (gl_cons gl_nil)))) (fun _ _ _ _ _ => (vts_one (vb_cmp (fa := .z) (fb := .z) (op_eqD (by exact hu64 B.rm)) eqD_ok (vq_op (fa := .z) (fb := .z) op_mod modD_ok (vq_z 1) (vq_z 3)) (vq_z 4)))) (fun _ _ _ _ _ => (vq_z 2)) rfl (of_decide_eq_true rfl) (by decide))) (.inl rfl)))
  (by exact vss_nil))
theorem s_rings_at : FnScope ["bells", "minute"] ["bells", "minute"] (defScope (top 20)) := ⟨rfl, rfl, rfl, by decide +kernel, rfl, by decide +kernel, by decide +kernel⟩
def b_rings_at : En → RS := (sSeq (sExpr (qF m_check_minute (lcons (qv 0) (lcons (qv 1) lnil))))
  (sSeq (sRet (q1 tupD (qF m_raw_rings (lcons (qv 0) (lcons (qv 1) lnil)))))
  sNx))
def m_rings_at (ds : List Dt) : R Dt := fin (b_rings_at (entE ds 0))
theorem ok_rings_at (F : Fx w K mg) : ∃ fd, FnP GdT P w K mg base 6 (He.ga K "rings_at") fd ["bells", "minute"] (spF K Tb .z 2 m_rings_at) ∧ PySem.W.keepIn K (.ref (He.ga K "rings_at")) = true ∧ Binds K fd ["bells", "minute"] [] := by
  obtain ⟨fd, D⟩ := f_rings_at F
  obtain ⟨fd_check_minute, c_check_minute, k_check_minute, b_check_minute⟩ := ok_check_minute (P := P) (base := base) (Tb := Tb) F
  obtain ⟨fd_raw_rings, c_raw_rings, k_raw_rings, b_raw_rings⟩ := ok_raw_rings (P := P) (base := base) (Tb := Tb) F
  refine ⟨fd, ?_, D.kp, D.bindsN fun _ _ _ _ _ _ us hl => match us, hl with | [_, _], _ => rfl⟩
  refine ok_defP (n := 2) (l := 0) (G' := [.z, .z]) (Lp := []) (mb := b_rings_at) gdT D s_rings_at rfl rfl rfl (fun _ => rfl) (fun h => by cases h) ?_
  intro cdv A outer s H S E hcd B
  have nd : (["bells", "minute"] : List Str).Nodup := by decide +kernel
  change VSs _ _ _ _ _ [.z, .z] _ _ _ _
  exact (vss_cons (G1 := [.z, .z]) (by exact (vs_expr (fl := .z) (nq_call (t := false) (f0 := .z) (c_check_minute.mono (k := 5) (by decide)) (by exact B.rm) (by exact trivial) (g_check_minute F) k_check_minute b_check_minute (by exact B.px) (an_cons (fa := .z) (vq_z 0) (an_cons (fa := .z) (vq_z 1) an_nil)))))
  (by exact (vss_cons (G1 := [.z, .z]) (by exact (vs_ret (vq_tuple (by rfl) (n_tuple F) (nq_call (t := false) (f0 := .z) (c_raw_rings.mono (k := 5) (by decide)) (by exact B.rm) (by exact trivial) (g_raw_rings F) k_raw_rings b_raw_rings (by exact B.px) (an_cons (fa := .z) (vq_z 0) (an_cons (fa := .z) (vq_z 1) an_nil)))) (.inl rfl)))
  (by exact vss_nil))))
theorem s_next_ring : FnScope ["bells", "minute", "later", "every", "first"] ["bells", "minute"] (defScope (top 21)) := ⟨rfl, rfl, rfl, by decide +kernel, rfl, by decide +kernel, by decide +kernel⟩
def b_next_ring : En → RS := (sSeq (sExpr (qF m_check_minute (lcons (qv 0) (lcons (qv 1) lnil))))
  (sSeq (sSet 2 (qC minD (lcons (qLC (iSeq (qv 0)) [3, 4] (gT2 3 4) bYes (q2 addD (qv 1) (q2 modD (q2 subD (qv 4) (qv 1)) (qv 3)))) lnil)))
  (sSeq (sRet (qtup (lcons (qv 2) (lcons (q1 tupD (qF m_raw_rings (lcons (qv 0) (lcons (qv 2) lnil)))) lnil))))
  sNx)))
def m_next_ring (ds : List Dt) : R Dt := fin (b_next_ring (entE ds 3))
theorem ok_next_ring (F : Fx w K mg) : ∃ fd, FnP GdT P w K mg base 6 (He.ga K "next_ring") fd ["bells", "minute"] (spF K Tb .z 2 m_next_ring) ∧ PySem.W.keepIn K (.ref (He.ga K "next_ring")) = true ∧ Binds K fd ["bells", "minute"] [] := by
  obtain ⟨fd, D⟩ := f_next_ring F
  obtain ⟨fd_check_minute, c_check_minute, k_check_minute, b_check_minute⟩ := ok_check_minute (P := P) (base := base) (Tb := Tb) F
  obtain ⟨fd_raw_rings, c_raw_rings, k_raw_rings, b_raw_rings⟩ := ok_raw_rings (P := P) (base := base) (Tb := Tb) F
  refine ⟨fd, ?_, D.kp, D.bindsN fun _ _ _ _ _ _ us hl => match us, hl with | [_, _], _ => rfl⟩
  refine ok_defP (n := 2) (l := 3) (G' := [.z, .z, .z, .dead, .dead]) (Lp := []) (mb := b_next_ring) gdT D s_next_ring rfl rfl rfl (fun _ => rfl) (fun h => by cases h) ?_
  intro cdv A outer s H S E hcd B
  have nd : (["bells", "minute", "later", "every", "first"] : List Str).Nodup := by decide +kernel
  change VSs _ _ _ _ _ [.z, .z, .dead, .dead, .dead] _ _ _ _
  exact (vss_cons (G1 := [.z, .z, .dead, .dead, .dead]) (by exact (vs_expr (fl := .z) (nq_call (t := false) (f0 := .z) (c_check_minute.mono (k := 5) (by decide)) (by exact B.rm) (by exact trivial) (g_check_minute F) k_check_minute b_check_minute (by exact B.px) (an_cons (fa := .z) (vq_z 0) (an_cons (fa := .z) (vq_z 1) an_nil)))))
  (by exact (vss_cons (G1 := [.z, .z, .z, .dead, .dead]) (by exact (vs_set 2 (nq_callB (cr_minA (by exact B.calm)) minD_ok (n_min F) (an_cons (fa := .own) (vq_lc (sl := [3, 4]) (by exact B.calm) nd (vi_seq (vq_z 0)) (blkOk_by (own := [("every", 3), ("first", 4)]) (by rfl)) (fun _ _ _ _ _ => (vg_t2 3 4 (by exact B.calm) nd)) (fun _ _ _ _ _ => vts_nil) (fun _ _ _ _ _ => (vq_op (fa := .z) (fb := .z) op_addA addD_ok (vq_z 1) (vq_op (fa := .z) (fb := .z) op_mod modD_ok (vq_op (fa := .z) (fb := .z) op_sub subD_ok (vq_z 4) (vq_z 1)) (vq_z 3)))) rfl (of_decide_eq_true rfl) (by decide)) an_nil)) nd))
  (by exact (vss_cons (G1 := [.z, .z, .z, .dead, .dead]) (by exact (vs_ret (nq_tup (an_cons (fa := .z) (vq_z 2) (an_cons (fa := .z) (vq_tuple (by rfl) (n_tuple F) (nq_call (t := false) (f0 := .z) (c_raw_rings.mono (k := 5) (by decide)) (by exact B.rm) (by exact trivial) (g_raw_rings F) k_raw_rings b_raw_rings (by exact B.px) (an_cons (fa := .z) (vq_z 0) (an_cons (fa := .z) (vq_z 2) an_nil)))) an_nil))) (.inl rfl)))
  (by exact vss_nil))))))
theorem s_common_divisor : FnScope ["one", "other"] ["one", "other"] (defScope (top 22)) := ⟨rfl, rfl, rfl, by decide +kernel, rfl, by decide +kernel, by decide +kernel⟩
def b_common_divisor : En → RS := (sSeq (whileL (qT (q2 gtD (qv 1) (qc (.int 0)))) (sSeq (sPar2 0 1 (qv 1) (q2 modD (qv 0) (qv 1)))
  sNx) 10000)
  (sSeq (sRet (qv 0))
  sNx))
def m_common_divisor (ds : List Dt) : R Dt := fin (b_common_divisor (entE ds 0))
def lb1_common_divisor : En → RS := (sSeq (sPar2 0 1 (qv 1) (q2 modD (qv 0) (qv 1)))
  sNx)
theorem ok_common_divisor (F : Fx w K mg) : ∃ fd, FnP GdT P w K mg base 1 (He.ga K "common_divisor") fd ["one", "other"] (spF K Tb .z 2 m_common_divisor) ∧ PySem.W.keepIn K (.ref (He.ga K "common_divisor")) = true ∧ Binds K fd ["one", "other"] [] := by
  obtain ⟨fd, D⟩ := f_common_divisor F
  refine ⟨fd, ?_, D.kp, D.bindsN fun _ _ _ _ _ _ us hl => match us, hl with | [_, _], _ => rfl⟩
  refine ok_defP (n := 2) (l := 0) (G' := [.z, .z]) (Lp := []) (mb := b_common_divisor) gdT D s_common_divisor rfl rfl rfl (fun _ => rfl) (fun h => by cases h) ?_
  intro cdv A outer s H S E hcd B
  have nd : (["one", "other"] : List Str).Nodup := by decide +kernel
  change VSs _ _ _ _ _ [.z, .z] _ _ _ _
  exact (vss_cons (G1 := [.z, .z]) (by exact (vs_while 10000 (vb_cmp (fa := .z) (fb := .z) op_gt gtD_ok (vq_z 1) vq_int) (vss_cons (G1 := [.z, .z]) (by exact (vs_par2 0 1 (f1 := .z) (f2 := .z) (vq_z 1) (vq_op (fa := .z) (fb := .z) op_mod modD_ok (vq_z 0) (vq_z 1)) rfl rfl (by exact B.calm) nd))
  (by exact vss_nil)) B.po))
  (by exact (vss_cons (G1 := [.z, .z]) (by exact (vs_ret (vq_z 0) (.inl rfl)))
  (by exact vss_nil))))
theorem s_raw_round : FnScope ["bells", "found", "every", "first"] ["bells"] (defScope (top 23)) := ⟨rfl, rfl, rfl, by decide +kernel, rfl, by decide +kernel, by decide +kernel⟩
def b_raw_round : En → RS := (sSeq (sSet 1 (qc (.int 1)))
  (sSeq (sFor (iSeq (qv 0)) (gT2 2 3) (sSeq (sSet 1 (q2 fdvD (q2 mulD (qv 1) (qv 2)) (qF m_common_divisor (lcons (qv 1) (lcons (qv 2) lnil)))))
  (sKill 2 (sKill 3 sNx))))
  (sSeq (sRet (qv 1))
  sNx)))
def m_raw_round (ds : List Dt) : R Dt := fin (b_raw_round (entE ds 3))
def lb1_raw_round : En → RS := (sSeq (sSet 1 (q2 fdvD (q2 mulD (qv 1) (qv 2)) (qF m_common_divisor (lcons (qv 1) (lcons (qv 2) lnil)))))
  (sKill 2 (sKill 3 sNx)))
theorem ok_raw_round (F : Fx w K mg) : ∃ fd, FnP GdT P w K mg base 2 (He.ga K "raw_round") fd ["bells"] (spF K Tb .z 1 m_raw_round) ∧ PySem.W.keepIn K (.ref (He.ga K "raw_round")) = true ∧ Binds K fd ["bells"] [] := by
  obtain ⟨fd, D⟩ := f_raw_round F
  obtain ⟨fd_common_divisor, c_common_divisor, k_common_divisor, b_common_divisor⟩ := ok_common_divisor (P := P) (base := base) (Tb := Tb) F
  refine ⟨fd, ?_, D.kp, D.bindsN fun _ _ _ _ _ _ us hl => match us, hl with | [_], _ => rfl⟩
  refine ok_defP (n := 1) (l := 3) (G' := [.z, .z, .dead, .dead]) (Lp := []) (mb := b_raw_round) gdT D s_raw_round rfl rfl rfl (fun _ => rfl) (fun h => by cases h) ?_
  intro cdv A outer s H S E hcd B
  have nd : (["bells", "found", "every", "first"] : List Str).Nodup := by decide +kernel
  change VSs _ _ _ _ _ [.z, .dead, .dead, .dead] _ _ _ _
  exact (vss_cons (G1 := [.z, .z, .dead, .dead]) (by exact (vs_set 1 vq_int nd))
  (by exact (vss_cons (G1 := [.z, .z, .dead, .dead]) (by exact (vs_for (vi_seq (vq_z 0)) (vg_t2 2 3 (by exact B.calm) nd) (vss_cons (G1 := [.z, .z, .z, .z]) (by exact (vs_set 1 (vq_op (fa := .z) (fb := .z) op_fdiv fdvD_ok (vq_op (fa := .z) (fb := .z) op_mulA mulD_ok (vq_z 1) (vq_z 2)) (nq_call (t := false) (f0 := .z) (c_common_divisor.mono (k := 1) (by decide)) (by exact B.rm) (by exact trivial) (g_common_divisor F) k_common_divisor b_common_divisor (by exact B.px) (an_cons (fa := .z) (vq_z 1) (an_cons (fa := .z) (vq_z 2) an_nil)))) nd))
  (by exact (vss_kill 2 (hi := of_decide_eq_true rfl) (vss_kill 3 (hi := of_decide_eq_true rfl) vss_nil)))) B.po B.calm))
  (by exact (vss_cons (G1 := [.z, .z, .dead, .dead]) (by exact (vs_ret (vq_z 1) (.inl rfl)))
  (by exact vss_nil))))))
theorem s_round_of_bells : FnScope ["bells"] ["bells"] (defScope (top 24)) := ⟨rfl, rfl, rfl, by decide +kernel, rfl, by decide +kernel, by decide +kernel⟩
def b_round_of_bells : En → RS := (sSeq (sExpr (qF m_check_bells (lcons (qv 0) lnil)))
  (sSeq (sRet (qF m_raw_round (lcons (qv 0) lnil)))
  sNx))
def m_round_of_bells (ds : List Dt) : R Dt := fin (b_round_of_bells (entE ds 0))
theorem ok_round_of_bells (F : Fx w K mg) : ∃ fd, FnP GdT P w K mg base 5 (He.ga K "round_of_bells") fd ["bells"] (spF K Tb .z 1 m_round_of_bells) ∧ PySem.W.keepIn K (.ref (He.ga K "round_of_bells")) = true ∧ Binds K fd ["bells"] [] := by
  obtain ⟨fd, D⟩ := f_round_of_bells F
  obtain ⟨fd_check_bells, c_check_bells, k_check_bells, b_check_bells⟩ := ok_check_bells (P := P) (base := base) (Tb := Tb) F
  obtain ⟨fd_raw_round, c_raw_round, k_raw_round, b_raw_round⟩ := ok_raw_round (P := P) (base := base) (Tb := Tb) F
  refine ⟨fd, ?_, D.kp, D.bindsN fun _ _ _ _ _ _ us hl => match us, hl with | [_], _ => rfl⟩
  refine ok_defP (n := 1) (l := 0) (G' := [.z]) (Lp := []) (mb := b_round_of_bells) gdT D s_round_of_bells rfl rfl rfl (fun _ => rfl) (fun h => by cases h) ?_
  intro cdv A outer s H S E hcd B
  have nd : (["bells"] : List Str).Nodup := by decide +kernel
  change VSs _ _ _ _ _ [.z] _ _ _ _
  exact (vss_cons (G1 := [.z]) (by exact (vs_expr (fl := .z) (nq_call (t := false) (f0 := .z) (c_check_bells.mono (k := 4) (by decide)) (by exact B.rm) (by exact trivial) (g_check_bells F) k_check_bells b_check_bells (by exact B.px) (an_cons (fa := .z) (vq_z 0) an_nil))))
  (by exact (vss_cons (G1 := [.z]) (by exact (vs_ret (nq_call (t := false) (f0 := .z) (c_raw_round.mono (k := 4) (by decide)) (by exact B.rm) (by exact trivial) (g_raw_round F) k_raw_round b_raw_round (by exact B.px) (an_cons (fa := .z) (vq_z 0) an_nil)) (.inl rfl)))
  (by exact vss_nil))))
theorem s_never_meet : FnScope ["bells", "one", "other", "part"] ["bells", "one", "other"] (defScope (top 25)) := ⟨rfl, rfl, rfl, by decide +kernel, rfl, by decide +kernel, by decide +kernel⟩
def b_never_meet : En → RS := (sSeq (sSet 3 (qF m_common_divisor (lcons (q2 ixD (q2 ixD (qv 0) (qv 1)) (qc (.int 0))) (lcons (q2 ixD (q2 ixD (qv 0) (qv 2)) (qc (.int 0))) lnil))))
  (sSeq (sRet (q2 gtD (q2 modD (q2 subD (q2 ixD (q2 ixD (qv 0) (qv 1)) (qc (.int 1))) (q2 ixD (q2 ixD (qv 0) (qv 2)) (qc (.int 1)))) (qv 3)) (qc (.int 0))))
  sNx))
def m_never_meet (ds : List Dt) : R Dt := fin (b_never_meet (entE ds 1))
theorem ok_never_meet (F : Fx w K mg) : ∃ fd, FnP GdT P w K mg base 2 (He.ga K "never_meet") fd ["bells", "one", "other"] (spF K Tb .z 3 m_never_meet) ∧ PySem.W.keepIn K (.ref (He.ga K "never_meet")) = true ∧ Binds K fd ["bells", "one", "other"] [] := by
  obtain ⟨fd, D⟩ := f_never_meet F
  obtain ⟨fd_common_divisor, c_common_divisor, k_common_divisor, b_common_divisor⟩ := ok_common_divisor (P := P) (base := base) (Tb := Tb) F
  refine ⟨fd, ?_, D.kp, D.bindsN fun _ _ _ _ _ _ us hl => match us, hl with | [_, _, _], _ => rfl⟩
  refine ok_defP (n := 3) (l := 1) (G' := [.z, .z, .z, .z]) (Lp := []) (mb := b_never_meet) gdT D s_never_meet rfl rfl rfl (fun _ => rfl) (fun h => by cases h) ?_
  intro cdv A outer s H S E hcd B
  have nd : (["bells", "one", "other", "part"] : List Str).Nodup := by decide +kernel
  change VSs _ _ _ _ _ [.z, .z, .z, .dead] _ _ _ _
  exact (vss_cons (G1 := [.z, .z, .z, .z]) (by exact (vs_set 3 (nq_call (t := false) (f0 := .z) (c_common_divisor.mono (k := 1) (by decide)) (by exact B.rm) (by exact trivial) (g_common_divisor F) k_common_divisor b_common_divisor (by exact B.px) (an_cons (fa := .z) (vq_ix (fa := .z) (fb := .z) (vq_ix (fa := .z) (fb := .z) (vq_z 0) (vq_z 1)) vq_int) (an_cons (fa := .z) (vq_ix (fa := .z) (fb := .z) (vq_ix (fa := .z) (fb := .z) (vq_z 0) (vq_z 2)) vq_int) an_nil))) nd))
  (by exact (vss_cons (G1 := [.z, .z, .z, .z]) (by exact (vs_ret (vq_cmp (fa := .z) (fb := .z) op_gt gtD_ok (vq_op (fa := .z) (fb := .z) op_mod modD_ok (vq_op (fa := .z) (fb := .z) op_sub subD_ok (vq_ix (fa := .z) (fb := .z) (vq_ix (fa := .z) (fb := .z) (vq_z 0) (vq_z 1)) vq_int) (vq_ix (fa := .z) (fb := .z) (vq_ix (fa := .z) (fb := .z) (vq_z 0) (vq_z 2)) vq_int)) (vq_z 3)) vq_int) (.inl rfl)))
  (by exact vss_nil))))
theorem s_strangers : FnScope ["bells", "many", "one", "other"] ["bells"] (defScope (top 26)) := ⟨rfl, rfl, rfl, by decide +kernel, rfl, by decide +kernel, by decide +kernel⟩
def b_strangers : En → RS := (sSeq (sSet 1 (qC lenD (lcons (qv 0) lnil)))
  (sSeq (sRet (qLC2 (iOf rg1 (lcons (qv 1) lnil)) [2, 3] (gN 2) bYes (iOf rg2 (lcons (q2 addD (qv 2) (qc (.int 1))) (lcons (qv 1) lnil))) [3] (gN 3) (qT (qF m_never_meet (lcons (qv 0) (lcons (qv 2) (lcons (qv 3) lnil))))) (qtup (lcons (qv 2) (lcons (qv 3) lnil)))))
  sNx))
def m_strangers (ds : List Dt) : R Dt := fin (b_strangers (entE ds 3))
theorem ok_strangers (F : Fx w K mg) : ∃ fd, FnP GdT P w K mg base 3 (He.ga K "strangers") fd ["bells"] (spF K Tb .z 1 m_strangers) ∧ PySem.W.keepIn K (.ref (He.ga K "strangers")) = true ∧ Binds K fd ["bells"] [] := by
  obtain ⟨fd, D⟩ := f_strangers F
  obtain ⟨fd_never_meet, c_never_meet, k_never_meet, b_never_meet⟩ := ok_never_meet (P := P) (base := base) (Tb := Tb) F
  refine ⟨fd, ?_, D.kp, D.bindsN fun _ _ _ _ _ _ us hl => match us, hl with | [_], _ => rfl⟩
  refine ok_defP (n := 1) (l := 3) (G' := [.z, .z, .dead, .dead]) (Lp := []) (mb := b_strangers) gdT D s_strangers rfl rfl rfl (fun _ => rfl) (fun h => by cases h) ?_
  intro cdv A outer s H S E hcd B
  have nd : (["bells", "many", "one", "other"] : List Str).Nodup := by decide +kernel
  change VSs _ _ _ _ _ [.z, .dead, .dead, .dead] _ _ _ _
  exact (vss_cons (G1 := [.z, .z, .dead, .dead]) (by exact (vs_set 1 (nq_callB call_lenA lenD_ok (n_len F) (an_cons (fa := .z) (vq_z 0) an_nil)) nd))
  (by exact (vss_cons (G1 := [.z, .z, .dead, .dead]) (by exact (vs_ret (vq_fz (vq_lc2 (sl := [2]) (sl1 := [3]) (vs1 := [3]) (by exact B.calm) nd (ni_range1 (n_range F) (an_cons (fa := .z) (vq_z 1) an_nil)) (blkOk_by (own := [("one", 2), ("other", 3)]) (by rfl)) (fun _ _ _ _ _ => (vg_name 2 nd)) (fun _ _ _ _ _ => vts_nil) (fun _ _ _ _ _ => (ni_range2 (n_range F) (an_cons (fa := .z) (vq_op (fa := .z) (fb := .z) op_addA addD_ok (vq_z 2) vq_int) (an_cons (fa := .z) (vq_z 1) an_nil)))) (fun _ _ _ _ _ => (vg_name 3 nd)) (fun _ _ _ _ _ => (vts_one (vb_val (nq_call (t := false) (f0 := .z) (c_never_meet.mono (k := 2) (by decide)) (by exact B.rm) (by exact trivial) (g_never_meet F) k_never_meet b_never_meet passes0 (an_cons (fa := .z) (vq_z 0) (an_cons (fa := .z) (vq_z 2) (an_cons (fa := .z) (vq_z 3) an_nil))))))) (fun _ _ _ _ _ => (nq_tup (an_cons (fa := .z) (vq_z 2) (an_cons (fa := .z) (vq_z 3) an_nil)))) rfl (of_decide_eq_true rfl) (by decide) (of_decide_eq_true rfl) (by decide) (by decide) (by decide))) (.inl rfl)))
  (by exact vss_nil))))
theorem s_first_meeting : FnScope ["bells", "minute", "step", "every", "first"] ["bells"] (defScope (top 27)) := ⟨rfl, rfl, rfl, by decide +kernel, rfl, by decide +kernel, by decide +kernel⟩
def b_first_meeting : En → RS := (sSeq (sAsg (gT2 1 2) (qtup (lcons (qc (.int 0)) (lcons (qc (.int 1)) lnil))))
  (sSeq (sFor (iSeq (qv 0)) (gT2 3 4) (sSeq (whileL (qT (q2 neD (q2 modD (qv 1) (qv 3)) (qv 4))) (sSeq (sAugN (fun i j => i + j) 1 (qv 2))
  sNx) 10000)
  (sSeq (sSet 2 (q2 fdvD (q2 mulD (qv 2) (qv 3)) (qF m_common_divisor (lcons (qv 2) (lcons (qv 3) lnil)))))
  (sKill 3 (sKill 4 sNx)))))
  (sSeq (sRet (qv 1))
  sNx)))
def m_first_meeting (ds : List Dt) : R Dt := fin (b_first_meeting (entE ds 4))
def lb1_first_meeting : En → RS := (sSeq (whileL (qT (q2 neD (q2 modD (qv 1) (qv 3)) (qv 4))) (sSeq (sAugN (fun i j => i + j) 1 (qv 2))
  sNx) 10000)
  (sSeq (sSet 2 (q2 fdvD (q2 mulD (qv 2) (qv 3)) (qF m_common_divisor (lcons (qv 2) (lcons (qv 3) lnil)))))
  (sKill 3 (sKill 4 sNx))))
def lb2_first_meeting : En → RS := (sSeq (sAugN (fun i j => i + j) 1 (qv 2))
  sNx)
theorem ok_first_meeting (F : Fx w K mg) : ∃ fd, FnP GdT P w K mg base 2 (He.ga K "first_meeting") fd ["bells"] (spF K Tb .z 1 m_first_meeting) ∧ PySem.W.keepIn K (.ref (He.ga K "first_meeting")) = true ∧ Binds K fd ["bells"] [] := by
  obtain ⟨fd, D⟩ := f_first_meeting F
  obtain ⟨fd_common_divisor, c_common_divisor, k_common_divisor, b_common_divisor⟩ := ok_common_divisor (P := P) (base := base) (Tb := Tb) F
  refine ⟨fd, ?_, D.kp, D.bindsN fun _ _ _ _ _ _ us hl => match us, hl with | [_], _ => rfl⟩
  refine ok_defP (n := 1) (l := 4) (G' := [.z, .z, .z, .dead, .dead]) (Lp := []) (mb := b_first_meeting) gdT D s_first_meeting rfl rfl rfl (fun _ => rfl) (fun h => by cases h) ?_
  intro cdv A outer s H S E hcd B
  have nd : (["bells", "minute", "step", "every", "first"] : List Str).Nodup := by decide +kernel
  change VSs _ _ _ _ _ [.z, .dead, .dead, .dead, .dead] _ _ _ _
  exact (vss_cons (G1 := [.z, .z, .z, .dead, .dead]) (by exact (vs_asg (nq_tup (an_cons (fa := .z) vq_int (an_cons (fa := .z) vq_int an_nil))) (vg_t2 1 2 (by exact B.calm) nd)))
  (by exact (vss_cons (G1 := [.z, .z, .z, .dead, .dead]) (by exact (vs_for (vi_seq (vq_z 0)) (vg_t2 3 4 (by exact B.calm) nd) (vss_cons (G1 := [.z, .z, .z, .z, .z]) (by exact (vs_while 10000 (vb_cmp (fa := .z) (fb := .z) (op_neD (by exact hu64 B.rm)) neD_ok (vq_op (fa := .z) (fb := .z) op_mod modD_ok (vq_z 1) (vq_z 3)) (vq_z 4)) (vss_cons (G1 := [.z, .z, .z, .z, .z]) (by exact (vs_augN 1 ip_add (vq_z 2) nd))
  (by exact vss_nil)) B.po))
  (by exact (vss_cons (G1 := [.z, .z, .z, .z, .z]) (by exact (vs_set 2 (vq_op (fa := .z) (fb := .z) op_fdiv fdvD_ok (vq_op (fa := .z) (fb := .z) op_mulA mulD_ok (vq_z 2) (vq_z 3)) (nq_call (t := false) (f0 := .z) (c_common_divisor.mono (k := 1) (by decide)) (by exact B.rm) (by exact trivial) (g_common_divisor F) k_common_divisor b_common_divisor (by exact B.px) (an_cons (fa := .z) (vq_z 2) (an_cons (fa := .z) (vq_z 3) an_nil)))) nd))
  (by exact (vss_kill 3 (hi := of_decide_eq_true rfl) (vss_kill 4 (hi := of_decide_eq_true rfl) vss_nil)))))) B.po B.calm))
  (by exact (vss_cons (G1 := [.z, .z, .z, .dead, .dead]) (by exact (vs_ret (vq_z 1) (.inl rfl)))
  (by exact vss_nil))))))
theorem s_count_together : FnScope ["bells", "many", "first", "step"] ["bells", "many"] (defScope (top 28)) := ⟨rfl, rfl, rfl, by decide +kernel, rfl, by decide +kernel, by decide +kernel⟩
def b_count_together : En → RS := (sSeq (sIf (qT (q2 gtD (qC lenD (lcons (qF m_strangers (lcons (qv 0) lnil)) lnil)) (qc (.int 0)))) (sSeq (sRet (qc (.int 0)))
  sNx) sNx)
  (sSeq (sPar2 2 3 (qF m_first_meeting (lcons (qv 0) lnil)) (qF m_raw_round (lcons (qv 0) lnil)))
  (sSeq (sRet (qIf (qT (q2 geD (qv 2) (qv 1))) (qc (.int 0)) (q2 addD (q2 fdvD (q2 subD (q2 subD (qv 1) (qc (.int 1))) (qv 2)) (qv 3)) (qc (.int 1)))))
  sNx)))
def m_count_together (ds : List Dt) : R Dt := fin (b_count_together (entE ds 2))
theorem ok_count_together (F : Fx w K mg) : ∃ fd, FnP GdT P w K mg base 4 (He.ga K "count_together") fd ["bells", "many"] (spF K Tb .z 2 m_count_together) ∧ PySem.W.keepIn K (.ref (He.ga K "count_together")) = true ∧ Binds K fd ["bells", "many"] [] := by
  obtain ⟨fd, D⟩ := f_count_together F
  obtain ⟨fd_first_meeting, c_first_meeting, k_first_meeting, b_first_meeting⟩ := ok_first_meeting (P := P) (base := base) (Tb := Tb) F
  obtain ⟨fd_raw_round, c_raw_round, k_raw_round, b_raw_round⟩ := ok_raw_round (P := P) (base := base) (Tb := Tb) F
  obtain ⟨fd_strangers, c_strangers, k_strangers, b_strangers⟩ := ok_strangers (P := P) (base := base) (Tb := Tb) F
  refine ⟨fd, ?_, D.kp, D.bindsN fun _ _ _ _ _ _ us hl => match us, hl with | [_, _], _ => rfl⟩
  refine ok_defP (n := 2) (l := 2) (G' := [.z, .z, .z, .z]) (Lp := []) (mb := b_count_together) gdT D s_count_together rfl rfl rfl (fun _ => rfl) (fun h => by cases h) ?_
  intro cdv A outer s H S E hcd B
  have nd : (["bells", "many", "first", "step"] : List Str).Nodup := by decide +kernel
  change VSs _ _ _ _ _ [.z, .z, .dead, .dead] _ _ _ _
  exact (vss_cons (G1 := [.z, .z, .dead, .dead]) (by exact (vs_if (G' := [.z, .z, .dead, .dead]) (vb_cmp (fa := .z) (fb := .z) op_gt gtD_ok (nq_callB call_lenA lenD_ok (n_len F) (an_cons (fa := .z) (nq_call (t := false) (f0 := .z) (c_strangers.mono (k := 3) (by decide)) (by exact B.rm) (by exact trivial) (g_strangers F) k_strangers b_strangers (by exact B.px) (an_cons (fa := .z) (vq_z 0) an_nil)) an_nil)) vq_int) (vss_end (G1 := [.z, .z, .dead, .dead]) (vss_cons (G1 := [.z, .z, .dead, .dead]) (by exact (vs_ret vq_int (.inl rfl)))
  (by exact vss_nil)) (nx1 nx_ret)) vss_nil))
  (by exact (vss_cons (G1 := [.z, .z, .z, .z]) (by exact (vs_par2 2 3 (f1 := .z) (f2 := .z) (nq_call (t := false) (f0 := .z) (c_first_meeting.mono (k := 3) (by decide)) (by exact B.rm) (by exact trivial) (g_first_meeting F) k_first_meeting b_first_meeting (by exact B.px) (an_cons (fa := .z) (vq_z 0) an_nil)) (nq_call (t := false) (f0 := .z) (c_raw_round.mono (k := 3) (by decide)) (by exact B.rm) (by exact trivial) (g_raw_round F) k_raw_round b_raw_round (by exact B.px) (an_cons (fa := .z) (vq_z 0) an_nil)) rfl rfl (by exact B.calm) nd))
  (by exact (vss_cons (G1 := [.z, .z, .z, .z]) (by exact (vs_ret (vq_if (vb_cmp (fa := .z) (fb := .z) op_ge geD_ok (vq_z 2) (vq_z 1)) vq_int (vq_op (fa := .z) (fb := .z) op_addA addD_ok (vq_op (fa := .z) (fb := .z) op_fdiv fdvD_ok (vq_op (fa := .z) (fb := .z) op_sub subD_ok (vq_op (fa := .z) (fb := .z) op_sub subD_ok (vq_z 1) vq_int) (vq_z 2)) (vq_z 3)) vq_int)) (.inl rfl)))
  (by exact vss_nil))))))
theorem s_together_count : FnScope ["bells", "many"] ["bells", "many"] (defScope (top 29)) := ⟨rfl, rfl, rfl, by decide +kernel, rfl, by decide +kernel, by decide +kernel⟩
def b_together_count : En → RS := (sSeq (sExpr (qF m_check_minute (lcons (qv 0) (lcons (qv 1) lnil))))
  (sSeq (sRet (qF m_count_together (lcons (qv 0) (lcons (qv 1) lnil))))
  sNx))
def m_together_count (ds : List Dt) : R Dt := fin (b_together_count (entE ds 0))
theorem ok_together_count (F : Fx w K mg) : ∃ fd, FnP GdT P w K mg base 6 (He.ga K "together_count") fd ["bells", "many"] (spF K Tb .z 2 m_together_count) ∧ PySem.W.keepIn K (.ref (He.ga K "together_count")) = true ∧ Binds K fd ["bells", "many"] [] := by
  obtain ⟨fd, D⟩ := f_together_count F
  obtain ⟨fd_check_minute, c_check_minute, k_check_minute, b_check_minute⟩ := ok_check_minute (P := P) (base := base) (Tb := Tb) F
  obtain ⟨fd_count_together, c_count_together, k_count_together, b_count_together⟩ := ok_count_together (P := P) (base := base) (Tb := Tb) F
  refine ⟨fd, ?_, D.kp, D.bindsN fun _ _ _ _ _ _ us hl => match us, hl with | [_, _], _ => rfl⟩
  refine ok_defP (n := 2) (l := 0) (G' := [.z, .z]) (Lp := []) (mb := b_together_count) gdT D s_together_count rfl rfl rfl (fun _ => rfl) (fun h => by cases h) ?_
  intro cdv A outer s H S E hcd B
  have nd : (["bells", "many"] : List Str).Nodup := by decide +kernel
  change VSs _ _ _ _ _ [.z, .z] _ _ _ _
  exact (vss_cons (G1 := [.z, .z]) (by exact (vs_expr (fl := .z) (nq_call (t := false) (f0 := .z) (c_check_minute.mono (k := 5) (by decide)) (by exact B.rm) (by exact trivial) (g_check_minute F) k_check_minute b_check_minute (by exact B.px) (an_cons (fa := .z) (vq_z 0) (an_cons (fa := .z) (vq_z 1) an_nil)))))
  (by exact (vss_cons (G1 := [.z, .z]) (by exact (vs_ret (nq_call (t := false) (f0 := .z) (c_count_together.mono (k := 5) (by decide)) (by exact B.rm) (by exact trivial) (g_count_together F) k_count_together b_count_together (by exact B.px) (an_cons (fa := .z) (vq_z 0) (an_cons (fa := .z) (vq_z 1) an_nil))) (.inl rfl)))
  (by exact vss_nil))))
theorem s_bell_lots : FnScope ["bells", "found", "bell", "lot"] ["bells"] (defScope (top 30)) := ⟨rfl, rfl, rfl, by decide +kernel, rfl, by decide +kernel, by decide +kernel⟩
def b_bell_lots : En → RS := (sSeq (sSet 1 (qlst (lcons (qtup lnil) lnil)))
  (sSeq (sFor (iSeq (qv 0)) (gN 2) (sSeq (sSet 1 (q2 addL (qv 1) (qLC (iSeq (qv 1)) [3] (gN 3) bYes (q2 addD (qv 3) (qtup (lcons (qv 2) lnil))))))
  (sKill 2 sNx)))
  (sSeq (sRet (qSl slL (qv 1) (oS (qc (.int 1))) oN))
  sNx)))
def m_bell_lots (ds : List Dt) : R Dt := fin (b_bell_lots (entE ds 3))
def lb1_bell_lots : En → RS := (sSeq (sSet 1 (q2 addL (qv 1) (qLC (iSeq (qv 1)) [3] (gN 3) bYes (q2 addD (qv 3) (qtup (lcons (qv 2) lnil))))))
  (sKill 2 sNx))
theorem ok_bell_lots (F : Fx w K mg) : ∃ fd, FnP GdT P w K mg base 1 (He.ga K "bell_lots") fd ["bells"] (spF K Tb .z 1 m_bell_lots) ∧ PySem.W.keepIn K (.ref (He.ga K "bell_lots")) = true ∧ Binds K fd ["bells"] [] := by
  obtain ⟨fd, D⟩ := f_bell_lots F
  refine ⟨fd, ?_, D.kp, D.bindsN fun _ _ _ _ _ _ us hl => match us, hl with | [_], _ => rfl⟩
  refine ok_defP (n := 1) (l := 3) (G' := [.z, .z, .dead, .dead]) (Lp := []) (mb := b_bell_lots) gdT D s_bell_lots rfl rfl rfl (fun _ => rfl) (fun h => by cases h) ?_
  intro cdv A outer s H S E hcd B
  have nd : (["bells", "found", "bell", "lot"] : List Str).Nodup := by decide +kernel
  change VSs _ _ _ _ _ [.z, .dead, .dead, .dead] _ _ _ _
  exact (vss_cons (G1 := [.z, .z, .dead, .dead]) (by exact (vs_set 1 (vq_fz (nq_lst (an_cons (fa := .z) (nq_tup an_nil) an_nil))) nd))
  (by exact (vss_cons (G1 := [.z, .z, .dead, .dead]) (by exact (vs_for (vi_seq (vq_z 0)) (vg_name 2 nd) (vss_cons (G1 := [.z, .z, .z, .dead]) (by exact (vs_set 1 (vq_fz (vq_op (fa := .z) (fb := .own) op_cat addL_ok (vq_z 1) (vq_lc (sl := [3]) (by exact B.calm) nd (vi_seq (vq_z 1)) (blkOk_by (own := [("lot", 3)]) (by rfl)) (fun _ _ _ _ _ => (vg_name 3 nd)) (fun _ _ _ _ _ => vts_nil) (fun _ _ _ _ _ => (vq_op (fa := .z) (fb := .z) op_addA addD_ok (vq_z 3) (nq_tup (an_cons (fa := .z) (vq_z 2) an_nil)))) rfl (of_decide_eq_true rfl) (by decide)))) nd))
  (by exact (vss_kill 2 (hi := of_decide_eq_true rfl) vss_nil))) B.po B.calm))
  (by exact (vss_cons (G1 := [.z, .z, .dead, .dead]) (by exact (vs_ret (vq_fz (vq_sl sl_list slL_ok (vq_z 1) (vo_some vq_int) vo_none)) (.inl rfl)))
  (by exact vss_nil))))))
theorem s_raw_count : FnScope ["bells", "many", "found", "lot"] ["bells", "many"] (defScope (top 31)) := ⟨rfl, rfl, rfl, by decide +kernel, rfl, by decide +kernel, by decide +kernel⟩
def b_raw_count : En → RS := (sSeq (sSet 2 (qc (.int 0)))
  (sSeq (sFor (iSeq (qF m_bell_lots (lcons (qv 0) lnil))) (gN 3) (sSeq (sAugN (fun i j => i + j) 2 (q2 mulD (qF m_count_together (lcons (qv 3) (lcons (qv 1) lnil))) (qIf (qT (q2 eqD (q2 modD (qC lenD (lcons (qv 3) lnil)) (qc (.int 2))) (qc (.int 1)))) (qc (.int 1)) (q1 negD (qc (.int 1))))))
  (sKill 3 sNx)))
  (sSeq (sRet (qv 2))
  sNx)))
def m_raw_count (ds : List Dt) : R Dt := fin (b_raw_count (entE ds 2))
def lb1_raw_count : En → RS := (sSeq (sAugN (fun i j => i + j) 2 (q2 mulD (qF m_count_together (lcons (qv 3) (lcons (qv 1) lnil))) (qIf (qT (q2 eqD (q2 modD (qC lenD (lcons (qv 3) lnil)) (qc (.int 2))) (qc (.int 1)))) (qc (.int 1)) (q1 negD (qc (.int 1))))))
  (sKill 3 sNx))
theorem ok_raw_count (F : Fx w K mg) : ∃ fd, FnP GdT P w K mg base 5 (He.ga K "raw_count") fd ["bells", "many"] (spF K Tb .z 2 m_raw_count) ∧ PySem.W.keepIn K (.ref (He.ga K "raw_count")) = true ∧ Binds K fd ["bells", "many"] [] := by
  obtain ⟨fd, D⟩ := f_raw_count F
  obtain ⟨fd_bell_lots, c_bell_lots, k_bell_lots, b_bell_lots⟩ := ok_bell_lots (P := P) (base := base) (Tb := Tb) F
  obtain ⟨fd_count_together, c_count_together, k_count_together, b_count_together⟩ := ok_count_together (P := P) (base := base) (Tb := Tb) F
  refine ⟨fd, ?_, D.kp, D.bindsN fun _ _ _ _ _ _ us hl => match us, hl with | [_, _], _ => rfl⟩
  refine ok_defP (n := 2) (l := 2) (G' := [.z, .z, .z, .dead]) (Lp := []) (mb := b_raw_count) gdT D s_raw_count rfl rfl rfl (fun _ => rfl) (fun h => by cases h) ?_
  intro cdv A outer s H S E hcd B
  have nd : (["bells", "many", "found", "lot"] : List Str).Nodup := by decide +kernel
  change VSs _ _ _ _ _ [.z, .z, .dead, .dead] _ _ _ _
  exact (vss_cons (G1 := [.z, .z, .z, .dead]) (by exact (vs_set 2 vq_int nd))
  (by exact (vss_cons (G1 := [.z, .z, .z, .dead]) (by exact (vs_for (vi_seq (nq_call (t := false) (f0 := .z) (c_bell_lots.mono (k := 4) (by decide)) (by exact B.rm) (by exact trivial) (g_bell_lots F) k_bell_lots b_bell_lots (by exact B.px) (an_cons (fa := .z) (vq_z 0) an_nil))) (vg_name 3 nd) (vss_cons (G1 := [.z, .z, .z, .z]) (by exact (vs_augN 2 ip_add (vq_op (fa := .z) (fb := .z) op_mulA mulD_ok (nq_call (t := false) (f0 := .z) (c_count_together.mono (k := 4) (by decide)) (by exact B.rm) (by exact trivial) (g_count_together F) k_count_together b_count_together (by exact B.px) (an_cons (fa := .z) (vq_z 3) (an_cons (fa := .z) (vq_z 1) an_nil))) (vq_if (vb_cmp (fa := .z) (fb := .z) (op_eqD (by exact hu64 B.rm)) eqD_ok (vq_op (fa := .z) (fb := .z) op_mod modD_ok (nq_callB call_lenA lenD_ok (n_len F) (an_cons (fa := .z) (vq_z 3) an_nil)) vq_int) vq_int) vq_int (vq_neg vq_int))) nd))
  (by exact (vss_kill 3 (hi := of_decide_eq_true rfl) vss_nil))) B.po B.calm))
  (by exact (vss_cons (G1 := [.z, .z, .z, .dead]) (by exact (vs_ret (vq_z 2) (.inl rfl)))
  (by exact vss_nil))))))
theorem s_ring_count : FnScope ["bells", "many"] ["bells", "many"] (defScope (top 32)) := ⟨rfl, rfl, rfl, by decide +kernel, rfl, by decide +kernel, by decide +kernel⟩
def b_ring_count : En → RS := (sSeq (sExpr (qF m_check_minute (lcons (qv 0) (lcons (qv 1) lnil))))
  (sSeq (sRet (qF m_raw_count (lcons (qv 0) (lcons (qv 1) lnil))))
  sNx))
def m_ring_count (ds : List Dt) : R Dt := fin (b_ring_count (entE ds 0))
theorem ok_ring_count (F : Fx w K mg) : ∃ fd, FnP GdT P w K mg base 6 (He.ga K "ring_count") fd ["bells", "many"] (spF K Tb .z 2 m_ring_count) ∧ PySem.W.keepIn K (.ref (He.ga K "ring_count")) = true ∧ Binds K fd ["bells", "many"] [] := by
  obtain ⟨fd, D⟩ := f_ring_count F
  obtain ⟨fd_check_minute, c_check_minute, k_check_minute, b_check_minute⟩ := ok_check_minute (P := P) (base := base) (Tb := Tb) F
  obtain ⟨fd_raw_count, c_raw_count, k_raw_count, b_raw_count⟩ := ok_raw_count (P := P) (base := base) (Tb := Tb) F
  refine ⟨fd, ?_, D.kp, D.bindsN fun _ _ _ _ _ _ us hl => match us, hl with | [_, _], _ => rfl⟩
  refine ok_defP (n := 2) (l := 0) (G' := [.z, .z]) (Lp := []) (mb := b_ring_count) gdT D s_ring_count rfl rfl rfl (fun _ => rfl) (fun h => by cases h) ?_
  intro cdv A outer s H S E hcd B
  have nd : (["bells", "many"] : List Str).Nodup := by decide +kernel
  change VSs _ _ _ _ _ [.z, .z] _ _ _ _
  exact (vss_cons (G1 := [.z, .z]) (by exact (vs_expr (fl := .z) (nq_call (t := false) (f0 := .z) (c_check_minute.mono (k := 5) (by decide)) (by exact B.rm) (by exact trivial) (g_check_minute F) k_check_minute b_check_minute (by exact B.px) (an_cons (fa := .z) (vq_z 0) (an_cons (fa := .z) (vq_z 1) an_nil)))))
  (by exact (vss_cons (G1 := [.z, .z]) (by exact (vs_ret (nq_call (t := false) (f0 := .z) (c_raw_count.mono (k := 5) (by decide)) (by exact B.rm) (by exact trivial) (g_raw_count F) k_raw_count b_raw_count (by exact B.px) (an_cons (fa := .z) (vq_z 0) (an_cons (fa := .z) (vq_z 1) an_nil))) (.inl rfl)))
  (by exact vss_nil))))
theorem s_alone_count : FnScope ["bells", "floor", "many", "others"] ["bells", "floor", "many"] (defScope (top 33)) := ⟨rfl, rfl, rfl, by decide +kernel, rfl, by decide +kernel, by decide +kernel⟩
def b_alone_count : En → RS := (sSeq (sExpr (qF m_check_bells (lcons (qv 0) lnil)))
  (sSeq (sIf (bNot (qT (qF m_is_within (lcons (qv 1) (lcons (qc (.int 0)) (lcons (q2 subD (qC lenD (lcons (qv 0) lnil)) (qc (.int 1))) lnil)))))) (sSeq (sRaise "NoFloor")
  sNx) sNx)
  (sSeq (sExpr (qF m_check_minute (lcons (qv 0) (lcons (qv 2) lnil))))
  (sSeq (sSet 3 (q2 addD (qSl slT (qv 0) oN (oS (qv 1))) (qSl slT (qv 0) (oS (q2 addD (qv 1) (qc (.int 1)))) oN)))
  (sSeq (sRet (q2 subD (qF m_raw_count (lcons (qv 0) (lcons (qv 2) lnil))) (qF m_raw_count (lcons (qv 3) (lcons (qv 2) lnil)))))
  sNx)))))
def m_alone_count (ds : List Dt) : R Dt := fin (b_alone_count (entE ds 1))
theorem ok_alone_count (F : Fx w K mg) : ∃ fd, FnP GdT P w K mg base 6 (He.ga K "alone_count") fd ["bells", "floor", "many"] (spF K Tb .z 3 m_alone_count) ∧ PySem.W.keepIn K (.ref (He.ga K "alone_count")) = true ∧ Binds K fd ["bells", "floor", "many"] [] := by
  obtain ⟨fd, D⟩ := f_alone_count F
  obtain ⟨fd_check_bells, c_check_bells, k_check_bells, b_check_bells⟩ := ok_check_bells (P := P) (base := base) (Tb := Tb) F
  obtain ⟨fd_check_minute, c_check_minute, k_check_minute, b_check_minute⟩ := ok_check_minute (P := P) (base := base) (Tb := Tb) F
  obtain ⟨fd_is_within, c_is_within, k_is_within, b_is_within⟩ := ok_is_within (P := P) (base := base) (Tb := Tb) F
  obtain ⟨fd_raw_count, c_raw_count, k_raw_count, b_raw_count⟩ := ok_raw_count (P := P) (base := base) (Tb := Tb) F
  refine ⟨fd, ?_, D.kp, D.bindsN fun _ _ _ _ _ _ us hl => match us, hl with | [_, _, _], _ => rfl⟩
  refine ok_defP (n := 3) (l := 1) (G' := [.z, .z, .z, .z]) (Lp := []) (mb := b_alone_count) gdT D s_alone_count rfl rfl rfl (fun _ => rfl) (fun h => by cases h) ?_
  intro cdv A outer s H S E hcd B
  have nd : (["bells", "floor", "many", "others"] : List Str).Nodup := by decide +kernel
  change VSs _ _ _ _ _ [.z, .z, .z, .dead] _ _ _ _
  exact (vss_cons (G1 := [.z, .z, .z, .dead]) (by exact (vs_expr (fl := .z) (nq_call (t := false) (f0 := .z) (c_check_bells.mono (k := 5) (by decide)) (by exact B.rm) (by exact trivial) (g_check_bells F) k_check_bells b_check_bells (by exact B.px) (an_cons (fa := .z) (vq_z 0) an_nil))))
  (by exact (vss_cons (G1 := [.z, .z, .z, .dead]) (by exact (vs_if (G' := [.z, .z, .z, .dead]) (vb_not (vb_val (nq_call (t := false) (f0 := .z) (c_is_within.mono (k := 5) (by decide)) (by exact B.rm) (by exact trivial) (g_is_within F) k_is_within b_is_within (by exact B.px) (an_cons (fa := .z) (vq_z 1) (an_cons (fa := .z) vq_int (an_cons (fa := .z) (vq_op (fa := .z) (fb := .z) op_sub subD_ok (nq_callB call_lenA lenD_ok (n_len F) (an_cons (fa := .z) (vq_z 0) an_nil)) vq_int) an_nil)))))) (vss_end (G1 := [.z, .z, .z, .dead]) (vss_cons (G1 := [.z, .z, .z, .dead]) (by exact (vs_raise B.calm B.tk (pmk_own0 PySem.F.excBase_ValueError (x_NoFloor F).1 (g_NoFloor F) (x_NoFloor F).2.1 (raises_own (x_NoFloor F).2.2.1 (x_NoFloor F).2.2.2) (by rfl))))
  (by exact vss_nil)) (nx1 nx_raise)) vss_nil))
  (by exact (vss_cons (G1 := [.z, .z, .z, .dead]) (by exact (vs_expr (fl := .z) (nq_call (t := false) (f0 := .z) (c_check_minute.mono (k := 5) (by decide)) (by exact B.rm) (by exact trivial) (g_check_minute F) k_check_minute b_check_minute (by exact B.px) (an_cons (fa := .z) (vq_z 0) (an_cons (fa := .z) (vq_z 2) an_nil)))))
  (by exact (vss_cons (G1 := [.z, .z, .z, .z]) (by exact (vs_set 3 (vq_op (fa := .z) (fb := .z) op_addA addD_ok (vq_sl sl_tupA slT_ok (vq_z 0) vo_none (vo_some (vq_z 1))) (vq_sl sl_tupA slT_ok (vq_z 0) (vo_some (vq_op (fa := .z) (fb := .z) op_addA addD_ok (vq_z 1) vq_int)) vo_none)) nd))
  (by exact (vss_cons (G1 := [.z, .z, .z, .z]) (by exact (vs_ret (vq_op (fa := .z) (fb := .z) op_sub subD_ok (nq_call (t := false) (f0 := .z) (c_raw_count.mono (k := 5) (by decide)) (by exact B.rm) (by exact trivial) (g_raw_count F) k_raw_count b_raw_count (by exact B.px) (an_cons (fa := .z) (vq_z 0) (an_cons (fa := .z) (vq_z 2) an_nil))) (nq_call (t := false) (f0 := .z) (c_raw_count.mono (k := 5) (by decide)) (by exact B.rm) (by exact trivial) (g_raw_count F) k_raw_count b_raw_count (by exact B.px) (an_cons (fa := .z) (vq_z 3) (an_cons (fa := .z) (vq_z 2) an_nil)))) (.inl rfl)))
  (by exact vss_nil))))))))))
theorem s__law_hand : FnScope ["script", "cells", "cell"] ["script"] (defScope (top 35)) := ⟨rfl, rfl, rfl, by decide +kernel, rfl, by decide +kernel, by decide +kernel⟩
def b__law_hand (ns : List Int) : En → RS := (sSeq (sSet 1 (qLC (iSeq (qScr ns)) [2] (gN 2) bYes (qC absD (lcons (qC intD (lcons (qv 2) lnil)) lnil))))
  (sSeq (sRet (qlst (lcons (qv 1) (lcons (qc (.int 0)) (lcons (qc (.int 0)) (lcons (q2 addD (qc (.int 61)) (q2 mulD (qc (.int 7)) (qC lenD (lcons (qv 1) lnil)))) (lcons (qc (.int 0)) lnil)))))))
  sNx))
def m__law_hand (ns : List Int) : R Dt := fin (b__law_hand ns (List.replicate 3 .none))
theorem ok__law_hand (F : Fx w K mg) : ∃ fd, FnP GdT P w K mg base 1 (He.ga K "_law_hand") fd ["script"] (spH K Tb m__law_hand) ∧ PySem.W.keepIn K (.ref (He.ga K "_law_hand")) = true ∧ Binds K fd ["script"] [] := by
  obtain ⟨fd, D⟩ := f__law_hand F
  refine ⟨fd, ?_, D.kp, D.bindsN fun _ _ _ _ _ _ us hl => match us, hl with | [_], _ => rfl⟩
  refine ok_defH (l := 2) (G' := []) (Lp := []) (mb := b__law_hand) gdT D s__law_hand rfl rfl (fun _ => rfl) (fun ns => (nx2 (nx1 nx_ret))) ?_
  intro cdv A outer s H a ns E hcd hS B
  have nd : (["script", "cells", "cell"] : List Str).Nodup := by decide +kernel
  change VSs _ _ _ _ _ [.ptr a, .dead, .dead] _ _ _ _
  exact (vss_end (G1 := [.ptr a, .z, .dead]) (vss_cons (G1 := [.ptr a, .own, .dead]) (by exact (vs_setLc 1 (sl := [2]) (by exact B.calm) nd (vi_seq (vq_fz (vq_scr hS rfl))) (blkOk_by (own := [("cell", 2)]) (by rfl)) (fun _ _ _ _ _ => (vg_name 2 nd)) (fun _ _ _ _ _ => vts_nil) (fun _ _ _ _ _ => (nq_callB call_abs absD_ok (n_abs F) (an_cons (fa := .z) (nq_callT call_int1 intD_ok (n_int F) (an_cons (fa := .z) (vq_z 2) an_nil)) an_nil))) rfl (of_decide_eq_true rfl) (by decide)))
  (by exact (vss_fz 1 (hi := rfl) (vss_cons (G1 := [.ptr a, .z, .dead]) (by exact (vs_retO (nq_lst (an_cons (fa := .z) (vq_z 1) (an_cons (fa := .z) vq_int (an_cons (fa := .z) vq_int (an_cons (fa := .z) (vq_op (fa := .z) (fb := .z) op_addA addD_ok vq_int (vq_op (fa := .z) (fb := .z) op_mulA mulD_ok vq_int (nq_callB call_lenA lenD_ok (n_len F) (an_cons (fa := .z) (vq_z 1) an_nil)))) (an_cons (fa := .z) vq_int an_nil)))))) (.inl rfl)))
  (by exact vss_nil))))) (nx2 (nx1 nx_ret)))
theorem s__law_draw : FnScope ["hand", "many", "cell", "digit", "number"] ["hand", "many"] (defScope (top 36)) := ⟨rfl, rfl, rfl, by decide +kernel, rfl, by decide +kernel, by decide +kernel⟩
def b__law_draw : En → RS := (sSeq (sIf (bAnd (qT (q2 eqD (qIxV 0 (qc (.int 2))) (qc (.int 0)))) (qT (q2 ltD (qIxV 0 (qc (.int 1))) (qC lenD (lcons (qIxV 0 (qc (.int 0))) lnil))))) (sSeq (sSet 2 (q2 ixD (qIxV 0 (qc (.int 0))) (qIxV 0 (qc (.int 1)))))
  (sSeq (sSto 0 (mQ (q2 addD (qIxV 0 (qc (.int 1))) (qc (.int 1)))) (qc (.int 1)))
  (sSeq (sSto 0 (mQ (q2 modD (qC intD (lcons (q2 addD (q2 addD (q2 mulD (qIxV 0 (qc (.int 3))) (qc (.int 69621))) (q2 mulD (qv 2) (qc (.int 40692)))) (qc (.int 31))) lnil)) (qc (.int 2147483629)))) (qc (.int 3)))
  (sSeq (sIf (qT (q2 geD (qv 2) (q2 powD (qc (.int 10)) (qc (.int 18))))) (sSeq (sSto 0 (mQ (qv 2)) (qc (.int 2)))
  sNx) sNx)
  (sKill 2 sNx))))) sNx)
  (sSeq (sIf (qT (q2 gtD (qIxV 0 (qc (.int 2))) (qc (.int 0)))) (sSeq (sSet 3 (q2 modD (qC intD (lcons (qIxV 0 (qc (.int 2))) lnil)) (qv 1)))
  (sSeq (sSto 0 (mQ (q2 fdvD (qIxV 0 (qc (.int 2))) (qv 1))) (qc (.int 2)))
  (sSeq (sRet (qv 3))
  sNx))) sNx)
  (sSeq (sSto 0 (mQ (q2 addD (qIxV 0 (qc (.int 4))) (qc (.int 1)))) (qc (.int 4)))
  (sSeq (sSet 4 (q2 modD (qC intD (lcons (q2 mulD (qC intD (lcons (q2 addD (qIxV 0 (qc (.int 3))) (q2 mulD (qc (.int 7919)) (qIxV 0 (qc (.int 4))))) lnil)) (qc (.int 48271))) lnil)) (qc (.int 2147483647))))
  (sSeq (sSet 4 (q2 modD (qC intD (lcons (q2 mulD (qv 4) (q2 addD (q2 fdvD (qv 4) (qc (.int 1009))) (qc (.int 69621)))) lnil)) (qc (.int 2147483647))))
  (sSeq (sSet 4 (q2 modD (qC intD (lcons (q2 mulD (qv 4) (q2 addD (q2 fdvD (qv 4) (qc (.int 2003))) (qc (.int 40014)))) lnil)) (qc (.int 2147483563))))
  (sSeq (sRet (q2 modD (qC intD (lcons (q2 fdvD (qv 4) (qc (.int 16))) lnil)) (qv 1)))
  sNx)))))))
def m__law_draw (d0 : Dt) (ds : List Dt) : R (Dt × Dt) := finM (b__law_draw (ioE d0 ds 3))
theorem ok__law_draw (F : Fx w K mg) : ∃ fd, FnP GdT P w K mg base 1 (He.ga K "_law_draw") fd ["hand", "many"] (spM K Tb 1 m__law_draw) ∧ PySem.W.keepIn K (.ref (He.ga K "_law_draw")) = true ∧ Binds K fd ["hand", "many"] [] := by
  obtain ⟨fd, D⟩ := f__law_draw F
  refine ⟨fd, ?_, D.kp, D.bindsN fun _ _ _ _ _ _ us hl => match us, hl with | [_, _], _ => rfl⟩
  refine ok_defIo (n := 1) (l := 3) (G' := [.io, .z, .dead, .dead, .z]) (Lp := []) (mb := b__law_draw) gdT D s__law_draw rfl rfl (fun _ _ => rfl) rfl ?_
  intro cdv A outer s H S a E hcd B
  have nd : (["hand", "many", "cell", "digit", "number"] : List Str).Nodup := by decide +kernel
  change VSs _ _ _ _ _ [.io, .z, .dead, .dead, .dead] _ _ _ _
  exact (vss_cons (G1 := [.io, .z, .dead, .dead, .dead]) (by exact (vs_if (G' := [.io, .z, .dead, .dead, .dead]) (vb_w (vw_and (vb_cmp (fa := .z) (fb := .z) (op_eqD (by exact hu64 B.rm)) eqD_ok (vq_ixV 0 vq_int) vq_int) (vw_and1 (vb_cmp (fa := .z) (fb := .z) op_lt ltD_ok (vq_ixV 0 vq_int) (nq_callB call_lenA lenD_ok (n_len F) (an_cons (fa := .z) (vq_ixV 0 vq_int) an_nil)))))) (vss_cons (G1 := [.io, .z, .z, .dead, .dead]) (by exact (vs_set 2 (vq_ix (fa := .z) (fb := .z) (vq_ixV 0 vq_int) (vq_ixV 0 vq_int)) nd))
  (by exact (vss_cons (G1 := [.io, .z, .z, .dead, .dead]) (by exact (vs_sto 0 (vm_q (vq_op (fa := .z) (fb := .z) op_addA addD_ok (vq_ixV 0 vq_int) vq_int)) vq_int))
  (by exact (vss_cons (G1 := [.io, .z, .z, .dead, .dead]) (by exact (vs_sto 0 (vm_q (vq_op (fa := .z) (fb := .z) op_mod modD_ok (nq_callT call_int1 intD_ok (n_int F) (an_cons (fa := .z) (vq_op (fa := .z) (fb := .z) op_addA addD_ok (vq_op (fa := .z) (fb := .z) op_addA addD_ok (vq_op (fa := .z) (fb := .z) op_mulA mulD_ok (vq_ixV 0 vq_int) vq_int) (vq_op (fa := .z) (fb := .z) op_mulA mulD_ok (vq_z 2) vq_int)) vq_int) an_nil)) vq_int)) vq_int))
  (by exact (vss_cons (G1 := [.io, .z, .z, .dead, .dead]) (by exact (vs_if (G' := [.io, .z, .z, .dead, .dead]) (vb_cmp (fa := .z) (fb := .z) op_ge geD_ok (vq_z 2) (vq_op (fa := .z) (fb := .z) op_pow powD_ok vq_int vq_int)) (vss_cons (G1 := [.io, .z, .z, .dead, .dead]) (by exact (vs_sto 0 (vm_q (vq_z 2)) vq_int))
  (by exact vss_nil)) vss_nil))
  (by exact (vss_kill 2 (hi := of_decide_eq_true rfl) vss_nil))))))))) vss_nil))
  (by exact (vss_cons (G1 := [.io, .z, .dead, .dead, .dead]) (by exact (vs_if (G' := [.io, .z, .dead, .dead, .dead]) (vb_cmp (fa := .z) (fb := .z) op_gt gtD_ok (vq_ixV 0 vq_int) vq_int) (vss_end (G1 := [.io, .z, .dead, .z, .dead]) (vss_cons (G1 := [.io, .z, .dead, .z, .dead]) (by exact (vs_set 3 (vq_op (fa := .z) (fb := .z) op_mod modD_ok (nq_callT call_int1 intD_ok (n_int F) (an_cons (fa := .z) (vq_ixV 0 vq_int) an_nil)) (vq_z 1)) nd))
  (by exact (vss_cons (G1 := [.io, .z, .dead, .z, .dead]) (by exact (vs_sto 0 (vm_q (vq_op (fa := .z) (fb := .z) op_fdiv fdvD_ok (vq_ixV 0 vq_int) (vq_z 1))) vq_int))
  (by exact (vss_cons (G1 := [.io, .z, .dead, .z, .dead]) (by exact (vs_ret (vq_z 3) (.inr rfl)))
  (by exact vss_nil)))))) (nx2 (nx2 (nx1 nx_ret)))) vss_nil))
  (by exact (vss_cons (G1 := [.io, .z, .dead, .dead, .dead]) (by exact (vs_sto 0 (vm_q (vq_op (fa := .z) (fb := .z) op_addA addD_ok (vq_ixV 0 vq_int) vq_int)) vq_int))
  (by exact (vss_cons (G1 := [.io, .z, .dead, .dead, .z]) (by exact (vs_set 4 (vq_op (fa := .z) (fb := .z) op_mod modD_ok (nq_callT call_int1 intD_ok (n_int F) (an_cons (fa := .z) (vq_op (fa := .z) (fb := .z) op_mulA mulD_ok (nq_callT call_int1 intD_ok (n_int F) (an_cons (fa := .z) (vq_op (fa := .z) (fb := .z) op_addA addD_ok (vq_ixV 0 vq_int) (vq_op (fa := .z) (fb := .z) op_mulA mulD_ok vq_int (vq_ixV 0 vq_int))) an_nil)) vq_int) an_nil)) vq_int) nd))
  (by exact (vss_cons (G1 := [.io, .z, .dead, .dead, .z]) (by exact (vs_set 4 (vq_op (fa := .z) (fb := .z) op_mod modD_ok (nq_callT call_int1 intD_ok (n_int F) (an_cons (fa := .z) (vq_op (fa := .z) (fb := .z) op_mulA mulD_ok (vq_z 4) (vq_op (fa := .z) (fb := .z) op_addA addD_ok (vq_op (fa := .z) (fb := .z) op_fdiv fdvD_ok (vq_z 4) vq_int) vq_int)) an_nil)) vq_int) nd))
  (by exact (vss_cons (G1 := [.io, .z, .dead, .dead, .z]) (by exact (vs_set 4 (vq_op (fa := .z) (fb := .z) op_mod modD_ok (nq_callT call_int1 intD_ok (n_int F) (an_cons (fa := .z) (vq_op (fa := .z) (fb := .z) op_mulA mulD_ok (vq_z 4) (vq_op (fa := .z) (fb := .z) op_addA addD_ok (vq_op (fa := .z) (fb := .z) op_fdiv fdvD_ok (vq_z 4) vq_int) vq_int)) an_nil)) vq_int) nd))
  (by exact (vss_cons (G1 := [.io, .z, .dead, .dead, .z]) (by exact (vs_ret (vq_op (fa := .z) (fb := .z) op_mod modD_ok (nq_callT call_int1 intD_ok (n_int F) (an_cons (fa := .z) (vq_op (fa := .z) (fb := .z) op_fdiv fdvD_ok (vq_z 4) vq_int) an_nil)) (vq_z 1)) (.inr rfl)))
  (by exact vss_nil))))))))))))))
theorem s__law_any : FnScope ["hand", "some"] ["hand", "some"] (defScope (top 37)) := ⟨rfl, rfl, rfl, by decide +kernel, rfl, by decide +kernel, by decide +kernel⟩
def b__law_any : En → RS := (sSeq (sRetM (m2 ixD (mQ (qv 1)) (mIo 0 m__law_draw (mcons (mQ (qC lenD (lcons (qv 1) lnil))) mnil))))
  sNx)
def m__law_any (d0 : Dt) (ds : List Dt) : R (Dt × Dt) := finM (b__law_any (ioE d0 ds 0))
theorem ok__law_any (F : Fx w K mg) : ∃ fd, FnP GdT P w K mg base 2 (He.ga K "_law_any") fd ["hand", "some"] (spM K Tb 1 m__law_any) ∧ PySem.W.keepIn K (.ref (He.ga K "_law_any")) = true ∧ Binds K fd ["hand", "some"] [] := by
  obtain ⟨fd, D⟩ := f__law_any F
  obtain ⟨fd__law_draw, c__law_draw, k__law_draw, b__law_draw⟩ := ok__law_draw (P := P) (base := base) (Tb := Tb) F
  refine ⟨fd, ?_, D.kp, D.bindsN fun _ _ _ _ _ _ us hl => match us, hl with | [_, _], _ => rfl⟩
  refine ok_defIo (n := 1) (l := 0) (G' := [.io, .z]) (Lp := []) (mb := b__law_any) gdT D s__law_any rfl rfl (fun _ _ => rfl) rfl ?_
  intro cdv A outer s H S a E hcd B
  have nd : (["hand", "some"] : List Str).Nodup := by decide +kernel
  change VSs _ _ _ _ _ [.io, .z] _ _ _ _
  exact (vss_cons (G1 := [.io, .z]) (by exact (vs_retM (vm_ix (vm_q (vq_z 1)) (nm_io 0 (c__law_draw.mono (k := 1) (by decide)) (by exact B.rm) (by exact trivial) (g__law_draw F) k__law_draw b__law_draw (mn_cons (vm_q (nq_callB call_lenA lenD_ok (n_len F) (an_cons (fa := .z) (vq_z 1) an_nil))) mn_nil))) (.inr rfl)))
  (by exact vss_nil))
theorem s__law_bells : FnScope ["hand", "most", "found", "floor", "every"] ["hand", "most"] (defScope (top 38)) := ⟨rfl, rfl, rfl, by decide +kernel, rfl, by decide +kernel, by decide +kernel⟩
def b__law_bells : En → RS := (sSeq (sSet 2 (qlst lnil))
  (sSeq (sForM (imOf rg1 (mcons (m2 addD (mQ (qc (.int 1))) (mIo 0 m__law_draw (mcons (mQ (qv 1)) mnil))) mnil)) (gN 3) (sSeq (sSetM 4 (mIo 0 m__law_any (mcons (mQ (qlst (lcons (qc (.int 1)) (lcons (qc (.int 2)) (lcons (qc (.int 3)) (lcons (qc (.int 4)) (lcons (qc (.int 4)) (lcons (qc (.int 5)) (lcons (qc (.int 6)) (lcons (qc (.int 6)) (lcons (qc (.int 10)) (lcons (qc (.int 12)) lnil)))))))))))) mnil)))
  (sSeq (sMut appD 2 (mtup (mcons (mQ (qv 4)) (mcons (mIo 0 m__law_draw (mcons (mQ (qv 4)) mnil)) mnil))))
  (sKill 3 (sKill 4 sNx)))))
  (sSeq (sRet (q1 tupD (qv 2)))
  sNx)))
def m__law_bells (d0 : Dt) (ds : List Dt) : R (Dt × Dt) := finM (b__law_bells (ioE d0 ds 3))
def lb1__law_bells : En → RS := (sSeq (sSetM 4 (mIo 0 m__law_any (mcons (mQ (qlst (lcons (qc (.int 1)) (lcons (qc (.int 2)) (lcons (qc (.int 3)) (lcons (qc (.int 4)) (lcons (qc (.int 4)) (lcons (qc (.int 5)) (lcons (qc (.int 6)) (lcons (qc (.int 6)) (lcons (qc (.int 10)) (lcons (qc (.int 12)) lnil)))))))))))) mnil)))
  (sSeq (sMut appD 2 (mtup (mcons (mQ (qv 4)) (mcons (mIo 0 m__law_draw (mcons (mQ (qv 4)) mnil)) mnil))))
  (sKill 3 (sKill 4 sNx))))
theorem ok__law_bells (F : Fx w K mg) : ∃ fd, FnP GdT P w K mg base 3 (He.ga K "_law_bells") fd ["hand", "most"] (spM K Tb 1 m__law_bells) ∧ PySem.W.keepIn K (.ref (He.ga K "_law_bells")) = true ∧ Binds K fd ["hand", "most"] [] := by
  obtain ⟨fd, D⟩ := f__law_bells F
  obtain ⟨fd__law_any, c__law_any, k__law_any, b__law_any⟩ := ok__law_any (P := P) (base := base) (Tb := Tb) F
  obtain ⟨fd__law_draw, c__law_draw, k__law_draw, b__law_draw⟩ := ok__law_draw (P := P) (base := base) (Tb := Tb) F
  refine ⟨fd, ?_, D.kp, D.bindsN fun _ _ _ _ _ _ us hl => match us, hl with | [_, _], _ => rfl⟩
  refine ok_defIo (n := 1) (l := 3) (G' := [.io, .z, .z, .dead, .dead]) (Lp := []) (mb := b__law_bells) gdT D s__law_bells rfl rfl (fun _ _ => rfl) rfl ?_
  intro cdv A outer s H S a E hcd B
  have nd : (["hand", "most", "found", "floor", "every"] : List Str).Nodup := by decide +kernel
  change VSs _ _ _ _ _ [.io, .z, .dead, .dead, .dead] _ _ _ _
  exact (vss_cons (G1 := [.io, .z, .own, .dead, .dead]) (by exact (vs_setO 2 (nq_lst an_nil) nd))
  (by exact (vss_cons (G1 := [.io, .z, .own, .dead, .dead]) (by exact (vs_forM (nim_range1 (n_range F) (mn_cons (vm_op op_addA addD_ok (vm_q vq_int) (nm_io 0 (c__law_draw.mono (k := 2) (by decide)) (by exact B.rm) (by exact trivial) (g__law_draw F) k__law_draw b__law_draw (mn_cons (vm_q (vq_z 1)) mn_nil))) mn_nil)) (vg_name 3 nd) (vss_cons (G1 := [.io, .z, .own, .z, .z]) (by exact (vs_setM 4 (nm_io 0 (c__law_any.mono (k := 2) (by decide)) (by exact B.rm) (by exact trivial) (g__law_any F) k__law_any b__law_any (mn_cons (vm_q (vq_fz (nq_lst (an_cons (fa := .z) vq_int (an_cons (fa := .z) vq_int (an_cons (fa := .z) vq_int (an_cons (fa := .z) vq_int (an_cons (fa := .z) vq_int (an_cons (fa := .z) vq_int (an_cons (fa := .z) vq_int (an_cons (fa := .z) vq_int (an_cons (fa := .z) vq_int (an_cons (fa := .z) vq_int an_nil))))))))))))) mn_nil)) nd))
  (by exact (vss_cons (G1 := [.io, .z, .own, .z, .z]) (by exact (vs_app 2 (nm_tup (mn_cons (vm_q (vq_z 4)) (mn_cons (nm_io 0 (c__law_draw.mono (k := 2) (by decide)) (by exact B.rm) (by exact trivial) (g__law_draw F) k__law_draw b__law_draw (mn_cons (vm_q (vq_z 4)) mn_nil)) mn_nil)))))
  (by exact (vss_kill 3 (hi := of_decide_eq_true rfl) (vss_kill 4 (hi := of_decide_eq_true rfl) vss_nil)))))) B.po B.calm))
  (by exact (vss_fz 2 (hi := rfl) (vss_cons (G1 := [.io, .z, .z, .dead, .dead]) (by exact (vs_ret (vq_tuple (by rfl) (n_tuple F) (vq_z 2)) (.inr rfl)))
  (by exact vss_nil)))))))
theorem s__law_round : FnScope ["bells", "many", "every", "first"] ["bells"] (defScope (top 39)) := ⟨rfl, rfl, rfl, by decide +kernel, rfl, by decide +kernel, by decide +kernel⟩
def b__law_round : En → RS := (sSeq (sSet 1 (qc (.int 1)))
  (sSeq (whileL (qT (qC anyD (lcons (qLC (iSeq (qv 0)) [2, 3] (gT2 2 3) bYes (q2 neD (q2 modD (qv 1) (qv 2)) (qc (.int 0)))) lnil))) (sSeq (sSet 1 (q2 addD (qv 1) (qc (.int 1))))
  sNx) 10000)
  (sSeq (sRet (qv 1))
  sNx)))
def m__law_round (ds : List Dt) : R Dt := fin (b__law_round (entE ds 3))
def lb1__law_round : En → RS := (sSeq (sSet 1 (q2 addD (qv 1) (qc (.int 1))))
  sNx)
theorem ok__law_round (F : Fx w K mg) : ∃ fd, FnP GdT P w K mg base 1 (He.ga K "_law_round") fd ["bells"] (spF K Tb .z 1 m__law_round) ∧ PySem.W.keepIn K (.ref (He.ga K "_law_round")) = true ∧ Binds K fd ["bells"] [] := by
  obtain ⟨fd, D⟩ := f__law_round F
  refine ⟨fd, ?_, D.kp, D.bindsN fun _ _ _ _ _ _ us hl => match us, hl with | [_], _ => rfl⟩
  refine ok_defP (n := 1) (l := 3) (G' := [.z, .z, .dead, .dead]) (Lp := []) (mb := b__law_round) gdT D s__law_round rfl rfl rfl (fun _ => rfl) (fun h => by cases h) ?_
  intro cdv A outer s H S E hcd B
  have nd : (["bells", "many", "every", "first"] : List Str).Nodup := by decide +kernel
  change VSs _ _ _ _ _ [.z, .dead, .dead, .dead] _ _ _ _
  exact (vss_cons (G1 := [.z, .z, .dead, .dead]) (by exact (vs_set 1 vq_int nd))
  (by exact (vss_cons (G1 := [.z, .z, .dead, .dead]) (by exact (vs_while 10000 (vb_val (nq_callB (cr_any (by exact B.calm)) anyD_ok (n_any F) (an_cons (fa := .own) (vq_lc (sl := [2, 3]) (by exact B.calm) nd (vi_seq (vq_z 0)) (blkOk_by (own := [("every", 2), ("first", 3)]) (by rfl)) (fun _ _ _ _ _ => (vg_t2 2 3 (by exact B.calm) nd)) (fun _ _ _ _ _ => vts_nil) (fun _ _ _ _ _ => (vq_cmp (fa := .z) (fb := .z) (op_neD (by exact hu64 B.rm)) neD_ok (vq_op (fa := .z) (fb := .z) op_mod modD_ok (vq_z 1) (vq_z 2)) vq_int)) rfl (of_decide_eq_true rfl) (by decide)) an_nil))) (vss_cons (G1 := [.z, .z, .dead, .dead]) (by exact (vs_set 1 (vq_op (fa := .z) (fb := .z) op_addA addD_ok (vq_z 1) vq_int) nd))
  (by exact vss_nil)) B.po))
  (by exact (vss_cons (G1 := [.z, .z, .dead, .dead]) (by exact (vs_ret (vq_z 1) (.inl rfl)))
  (by exact vss_nil))))))
theorem s__law_rings : FnScope ["bells", "minute", "floor", "every", "first"] ["bells", "minute"] (defScope (top 40)) := ⟨rfl, rfl, rfl, by decide +kernel, rfl, by decide +kernel, by decide +kernel⟩
def b__law_rings : En → RS := (sSeq (sRet (q1 tupD (qLC (iOf enumO (lcons (qv 0) lnil)) [2, 3, 4] (gTp (gsCons (gN 2) (gsCons (gTp (gsCons (gN 3) (gsCons (gN 4) gsNil))) gsNil))) (qT (q2 eqD (q2 modD (qC intD (lcons (q2 subD (qv 1) (qv 4)) lnil)) (qv 3)) (qc (.int 0)))) (qv 2))))
  sNx)
def m__law_rings (ds : List Dt) : R Dt := fin (b__law_rings (entE ds 3))
theorem ok__law_rings (F : Fx w K mg) : ∃ fd, FnP GdT P w K mg base 1 (He.ga K "_law_rings") fd ["bells", "minute"] (spF K Tb .z 2 m__law_rings) ∧ PySem.W.keepIn K (.ref (He.ga K "_law_rings")) = true ∧ Binds K fd ["bells", "minute"] [] := by
  obtain ⟨fd, D⟩ := f__law_rings F
  refine ⟨fd, ?_, D.kp, D.bindsN fun _ _ _ _ _ _ us hl => match us, hl with | [_, _], _ => rfl⟩
  refine ok_defP (n := 2) (l := 3) (G' := [.z, .z, .dead, .dead, .dead]) (Lp := []) (mb := b__law_rings) gdT D s__law_rings rfl rfl rfl (fun _ => rfl) (fun h => by cases h) ?_
  intro cdv A outer s H S E hcd B
  have nd : (["bells", "minute", "floor", "every", "first"] : List Str).Nodup := by decide +kernel
  change VSs _ _ _ _ _ [.z, .z, .dead, .dead, .dead] _ _ _ _
  exact (vss_cons (G1 := [.z, .z, .dead, .dead, .dead]) (by exact (vs_ret (vq_tuple (by rfl) (n_tuple F) (vq_lc (sl := [2, 3, 4]) (by exact B.calm) nd (ni_enum (n_enumerate F) (an_cons (fa := .z) (vq_z 0) an_nil)) (blkOk_by (own := [("floor", 2), ("every", 3), ("first", 4)]) (by rfl)) (fun _ _ _ _ _ => (vg_tp (by exact B.calm) (vgs_cons (vg_name 2 nd) (vgs_cons (vg_tp (by exact B.calm) (vgs_cons (vg_name 3 nd) (vgs_cons (vg_name 4 nd) vgs_nil)) (gl_cons (gl_cons gl_nil))) vgs_nil)) (gl_cons (gl_cons gl_nil)))) (fun _ _ _ _ _ => (vts_one (vb_cmp (fa := .z) (fb := .z) (op_eqD (by exact hu64 B.rm)) eqD_ok (vq_op (fa := .z) (fb := .z) op_mod modD_ok (nq_callT call_int1 intD_ok (n_int F) (an_cons (fa := .z) (vq_op (fa := .z) (fb := .z) op_sub subD_ok (vq_z 1) (vq_z 4)) an_nil)) (vq_z 3)) vq_int))) (fun _ _ _ _ _ => (vq_z 2)) rfl (of_decide_eq_true rfl) (by decide))) (.inl rfl)))
  (by exact vss_nil))
theorem s__law_bad_bells : FnScope ["hand", "things"] ["hand"] (defScope (top 41)) := ⟨rfl, rfl, rfl, by decide +kernel, rfl, by decide +kernel, by decide +kernel⟩
def b__law_bad_bells : En → RS := (sSeq (sSet 1 (qlst (lcons (qc .none) (lcons (qtup lnil) (lcons (qtup (lcons (qtup (lcons (qc (.int 0)) (lcons (qc (.int 0)) lnil))) lnil)) (lcons (qtup (lcons (qtup (lcons (qc (.int 61)) (lcons (qc (.int 0)) lnil))) lnil)) (lcons (qtup (lcons (qtup (lcons (qc (.int 3)) (lcons (qc (.int 3)) lnil))) lnil)) lnil)))))))
  (sSeq (sSet 1 (q2 addL (qv 1) (qlst (lcons (qtup (lcons (qtup (lcons (qc (.int 3)) (lcons (q1 negD (qc (.int 1))) lnil))) lnil)) (lcons (qlst (lcons (qtup (lcons (qc (.int 3)) (lcons (qc (.int 0)) lnil))) lnil)) (lcons (qtup (lcons (qtup (lcons (qc (.int 3)) (lcons (qc (.int 0)) (lcons (qc (.int 0)) lnil)))) lnil)) (lcons (q2 mulD (qtup (lcons (qtup (lcons (qc (.int 3)) (lcons (qc (.int 0)) lnil))) lnil)) (qc (.int 7))) (lcons (qtup (lcons (qtup (lcons (qc (.bool true)) (lcons (qc (.int 0)) lnil))) lnil)) lnil))))))))
  (sSeq (sRetM (mIo 0 m__law_any (mcons (mQ (q2 addL (qv 1) (qlst (lcons (qtup (lcons (qc (.str "?")) lnil)) (lcons (qtup (lcons (qlst (lcons (qc (.int 3)) (lcons (qc (.int 0)) lnil))) lnil)) (lcons (qtup (lcons (qtup (lcons (qc (.int 3)) (lcons (qc .none) lnil))) lnil)) lnil)))))) mnil)))
  sNx)))
def m__law_bad_bells (d0 : Dt) (ds : List Dt) : R (Dt × Dt) := finM (b__law_bad_bells (ioE d0 ds 1))
theorem ok__law_bad_bells (F : Fx w K mg) : ∃ fd, FnP GdT P w K mg base 3 (He.ga K "_law_bad_bells") fd ["hand"] (spM K Tb 0 m__law_bad_bells) ∧ PySem.W.keepIn K (.ref (He.ga K "_law_bad_bells")) = true ∧ Binds K fd ["hand"] [] := by
  obtain ⟨fd, D⟩ := f__law_bad_bells F
  obtain ⟨fd__law_any, c__law_any, k__law_any, b__law_any⟩ := ok__law_any (P := P) (base := base) (Tb := Tb) F
  refine ⟨fd, ?_, D.kp, D.bindsN fun _ _ _ _ _ _ us hl => match us, hl with | [_], _ => rfl⟩
  refine ok_defIo (n := 0) (l := 1) (G' := [.io, .z]) (Lp := []) (mb := b__law_bad_bells) gdT D s__law_bad_bells rfl rfl (fun _ _ => rfl) rfl ?_
  intro cdv A outer s H S a E hcd B
  have nd : (["hand", "things"] : List Str).Nodup := by decide +kernel
  change VSs _ _ _ _ _ [.io, .dead] _ _ _ _
  exact (vss_cons (G1 := [.io, .z]) (by exact (vs_set 1 (vq_fz (nq_lst (an_cons (fa := .z) vq_none (an_cons (fa := .z) (nq_tup an_nil) (an_cons (fa := .z) (nq_tup (an_cons (fa := .z) (nq_tup (an_cons (fa := .z) vq_int (an_cons (fa := .z) vq_int an_nil))) an_nil)) (an_cons (fa := .z) (nq_tup (an_cons (fa := .z) (nq_tup (an_cons (fa := .z) vq_int (an_cons (fa := .z) vq_int an_nil))) an_nil)) (an_cons (fa := .z) (nq_tup (an_cons (fa := .z) (nq_tup (an_cons (fa := .z) vq_int (an_cons (fa := .z) vq_int an_nil))) an_nil)) an_nil))))))) nd))
  (by exact (vss_cons (G1 := [.io, .z]) (by exact (vs_set 1 (vq_fz (vq_op (fa := .z) (fb := .own) op_cat addL_ok (vq_z 1) (nq_lst (an_cons (fa := .z) (nq_tup (an_cons (fa := .z) (nq_tup (an_cons (fa := .z) vq_int (an_cons (fa := .z) (vq_neg vq_int) an_nil))) an_nil)) (an_cons (fa := .own) (nq_lst (an_cons (fa := .z) (nq_tup (an_cons (fa := .z) vq_int (an_cons (fa := .z) vq_int an_nil))) an_nil)) (an_cons (fa := .z) (nq_tup (an_cons (fa := .z) (nq_tup (an_cons (fa := .z) vq_int (an_cons (fa := .z) vq_int (an_cons (fa := .z) vq_int an_nil)))) an_nil)) (an_cons (fa := .z) (vq_op (fa := .z) (fb := .z) op_mulA mulD_ok (nq_tup (an_cons (fa := .z) (nq_tup (an_cons (fa := .z) vq_int (an_cons (fa := .z) vq_int an_nil))) an_nil)) vq_int) (an_cons (fa := .z) (nq_tup (an_cons (fa := .z) (nq_tup (an_cons (fa := .z) vq_bool (an_cons (fa := .z) vq_int an_nil))) an_nil)) an_nil)))))))) nd))
  (by exact (vss_cons (G1 := [.io, .z]) (by exact (vs_retM (nm_io 0 (c__law_any.mono (k := 2) (by decide)) (by exact B.rm) (by exact trivial) (g__law_any F) k__law_any b__law_any (mn_cons (vm_q (vq_fz (vq_op (fa := .z) (fb := .own) op_cat addL_ok (vq_z 1) (nq_lst (an_cons (fa := .z) (nq_tup (an_cons (fa := .z) vq_str an_nil)) (an_cons (fa := .z) (nq_tup (an_cons (fa := .own) (nq_lst (an_cons (fa := .z) vq_int (an_cons (fa := .z) vq_int an_nil))) an_nil)) (an_cons (fa := .z) (nq_tup (an_cons (fa := .z) (nq_tup (an_cons (fa := .z) vq_int (an_cons (fa := .z) vq_none an_nil))) an_nil)) an_nil))))))) mn_nil)) (.inr rfl)))
  (by exact vss_nil))))))
theorem s__law_word : FnScope ["call", "word", "e"] ["call"] (defScope (top 42)) := ⟨rfl, rfl, rfl, by decide +kernel, rfl, by decide +kernel, by decide +kernel⟩
def b__law_word (r : R Dt) : En → RS := (sSeq (sSet 1 (qc (.str "other")))
  (sSeq (sTryN 3 2 (sSeq (sExpr (fun _ => r))
  (sSeq (sSet 1 (qc (.str "done")))
  (sKill 0 sNx))) ((cat_NoBells, fun x => (sSeq (sSet 1 (qIf (qT (qc (.bool (is_SchoolError x.cls)))) (qc (.str "bells")) (qc (.str "other"))))
  sNx)) :: ((cat_NoMinute, fun x => (sSeq (sSet 1 (qIf (qT (qc (.bool (is_SchoolError x.cls)))) (qc (.str "minute")) (qc (.str "other"))))
  sNx)) :: ((cat_NoFloor, fun x => (sSeq (sSet 1 (qIf (qT (qc (.bool (is_SchoolError x.cls)))) (qc (.str "floor")) (qc (.str "other"))))
  sNx)) :: ((cat_NoNumber, fun x => (sSeq (sSet 1 (qIf (qT (qc (.bool (is_SchoolError x.cls)))) (qc (.str "number")) (qc (.str "other"))))
  sNx)) :: ((cat_NoLengths, fun x => (sSeq (sSet 1 (qIf (qT (qc (.bool (is_SchoolError x.cls)))) (qc (.str "lengths")) (qc (.str "other"))))
  sNx)) :: ((cat_TooMany, fun x => sBad) :: [])))))))
  (sSeq (sRet (qv 1))
  sNx)))
def mw__law_word (r : R Dt) : R Dt := fin (b__law_word r (List.replicate 3 .none))
theorem gv__law_word {X : Cx} {Tb : Tbs} {w : World} (F : Fx w X.K X.mg) (hu : X.A.units + 100 < cLine) (cdv : Value) (q : Str) : LamX.GivesTo X ["call", "word", "e"] "_law_word" (defScope (top 42)) (He.ga X.K "_law_word") cdv (defBody (top 42)) "call" q (TTw X.K Tb mw__law_word) := by
  have nd : (["call", "word", "e"] : List Str).Nodup := by decide +kernel
  refine gives_said (l := 2) (mb := b__law_word) (G' := []) (Lp := []) (fun _ => rfl) rfl ?_
  intro f c2 s H S r act
  change VSs _ _ _ _ _ [.ptr f, .dead, .dead] _ _ _ _
  exact (vss_end (G1 := [.dead, .z, .dead]) (vss_cons (G1 := [.ptr f, .z, .dead]) (by exact (vs_set 1 vq_str nd))
  (by exact (vss_cons (G1 := [.dead, .z, .dead]) (by exact (vs_tryNs (L := 3) (G2 := [.dead, .z, .dead]) (G' := [.dead, .z, .dead]) 2 (by rfl) (by rfl) nd (by rfl) (by rfl) (by rfl) rfl (fun W pn xe E C' h1 h2 h3 tk h4 po => by exact (vss_cons (G1 := [.ptr f, .z, .dead]) (by exact (vs_expr (fl := .z) (act W pn xe E C' _ _ _ h1 h2 h3 tk h4 rfl)))
  (by exact (vss_cons (G1 := [.ptr f, .z, .dead]) (by exact (vs_set 1 vq_str nd))
  (by exact (vss_kill 0 (hi := of_decide_eq_true rfl) vss_nil)))))) (.cons (c := .ref (He.ga X.K "NoBells")) ⟨by rfl, by decide, .inl (by exact g_NoBells F)⟩ (by exact hcat_NoBells F) (fun x a oe pn C' hk0 hio hz hfl => by have hk := kn_NoBells hk0; change VSs _ _ _ _ _ [.dead, .dead, .ptr a] _ _ _ _; exact (vss_cons (G1 := [.dead, .z, .ptr a]) (by exact (vs_set 1 (vq_if (vb_val (vq_isC 2 (by exact xC F x hk) hz hfl (by exact k_SchoolError F x hk) (by rfl) (by exact g_SchoolError F) (by rfl) (by exact n_isinstance F))) vq_str vq_str) nd))
  (by exact vss_nil))) (.cons (c := .ref (He.ga X.K "NoMinute")) ⟨by rfl, by decide, .inl (by exact g_NoMinute F)⟩ (by exact hcat_NoMinute F) (fun x a oe pn C' hk0 hio hz hfl => by have hk := kn_NoMinute hk0; change VSs _ _ _ _ _ [.dead, .dead, .ptr a] _ _ _ _; exact (vss_cons (G1 := [.dead, .z, .ptr a]) (by exact (vs_set 1 (vq_if (vb_val (vq_isC 2 (by exact xC F x hk) hz hfl (by exact k_SchoolError F x hk) (by rfl) (by exact g_SchoolError F) (by rfl) (by exact n_isinstance F))) vq_str vq_str) nd))
  (by exact vss_nil))) (.cons (c := .ref (He.ga X.K "NoFloor")) ⟨by rfl, by decide, .inl (by exact g_NoFloor F)⟩ (by exact hcat_NoFloor F) (fun x a oe pn C' hk0 hio hz hfl => by have hk := kn_NoFloor hk0; change VSs _ _ _ _ _ [.dead, .dead, .ptr a] _ _ _ _; exact (vss_cons (G1 := [.dead, .z, .ptr a]) (by exact (vs_set 1 (vq_if (vb_val (vq_isC 2 (by exact xC F x hk) hz hfl (by exact k_SchoolError F x hk) (by rfl) (by exact g_SchoolError F) (by rfl) (by exact n_isinstance F))) vq_str vq_str) nd))
  (by exact vss_nil))) (.cons (c := .ref (He.ga X.K "NoNumber")) ⟨by rfl, by decide, .inl (by exact g_NoNumber F)⟩ (by exact hcat_NoNumber F) (fun x a oe pn C' hk0 hio hz hfl => by have hk := kn_NoNumber hk0; change VSs _ _ _ _ _ [.dead, .dead, .ptr a] _ _ _ _; exact (vss_cons (G1 := [.dead, .z, .ptr a]) (by exact (vs_set 1 (vq_if (vb_val (vq_isC 2 (by exact xC F x hk) hz hfl (by exact k_SchoolError F x hk) (by rfl) (by exact g_SchoolError F) (by rfl) (by exact n_isinstance F))) vq_str vq_str) nd))
  (by exact vss_nil))) (.cons (c := .ref (He.ga X.K "NoLengths")) ⟨by rfl, by decide, .inl (by exact g_NoLengths F)⟩ (by exact hcat_NoLengths F) (fun x a oe pn C' hk0 hio hz hfl => by have hk := kn_NoLengths hk0; change VSs _ _ _ _ _ [.dead, .dead, .ptr a] _ _ _ _; exact (vss_cons (G1 := [.dead, .z, .ptr a]) (by exact (vs_set 1 (vq_if (vb_val (vq_isC 2 (by exact xC F x hk) hz hfl (by exact k_SchoolError F x hk) (by rfl) (by exact g_SchoolError F) (by rfl) (by exact n_isinstance F))) vq_str vq_str) nd))
  (by exact vss_nil))) (.cons (c := .ref (He.ga X.K "TooMany")) ⟨by rfl, by decide, .inl (by exact g_TooMany F)⟩ (by exact hcat_TooMany F) (fun x a oe pn C' hk0 hio hz hfl => by have hk := kn_TooMany hk0; change VSs _ _ _ _ _ [.dead, .dead, .ptr a] _ _ _ _; exact vss_badS) .nil)))))) (by rfl) (of_decide_eq_true rfl)))
  (by exact (vss_cons (G1 := [.dead, .z, .dead]) (by exact (vs_ret (vq_z 1) (.inl rfl)))
  (by exact vss_nil)))))) (nx2 (nx2 (nx1 nx_ret))))
theorem s__law_counts : FnScope ["bells", "many", "rows", "minute", "alone", "row", "floor"] ["bells", "many"] (defScope (top 43)) := ⟨rfl, rfl, rfl, by decide +kernel, rfl, by decide +kernel, by decide +kernel⟩
def b__law_counts : En → RS := (sSeq (sSet 2 (qLC (iOf rg1 (lcons (qv 1) lnil)) [3] (gN 3) bYes (qF m__law_rings (lcons (qv 0) (lcons (qv 3) lnil)))))
  (sSeq (sSet 4 (qLC (iOf rg1 (lcons (qC lenD (lcons (qv 0) lnil)) lnil)) [6] (gN 6) bYes (qC lenD (lcons (qLC (iSeq (qv 2)) [5] (gN 5) (qT (q2 eqD (qv 5) (qtup (lcons (qv 6) lnil)))) (qc (.int 1))) lnil))))
  (sSeq (sRet (q2 addL (qlst (lcons (qC lenD (lcons (qLC (iSeq (qv 2)) [5] (gN 5) (qT (q2 eqD (qC lenD (lcons (qv 5) lnil)) (qC lenD (lcons (qv 0) lnil)))) (qc (.int 1))) lnil)) (lcons (qC lenD (lcons (qLC (iSeq (qv 2)) [5] (gN 5) (qT (q2 neD (qv 5) (qtup lnil))) (qc (.int 1))) lnil)) lnil))) (qv 4)))
  sNx)))
def m__law_counts (ds : List Dt) : R Dt := fin (b__law_counts (entE ds 5))
theorem ok__law_counts (F : Fx w K mg) : ∃ fd, FnP GdT P w K mg base 2 (He.ga K "_law_counts") fd ["bells", "many"] (spF K Tb .z 2 m__law_counts) ∧ PySem.W.keepIn K (.ref (He.ga K "_law_counts")) = true ∧ Binds K fd ["bells", "many"] [] := by
  obtain ⟨fd, D⟩ := f__law_counts F
  obtain ⟨fd__law_rings, c__law_rings, k__law_rings, b__law_rings⟩ := ok__law_rings (P := P) (base := base) (Tb := Tb) F
  refine ⟨fd, ?_, D.kp, D.bindsN fun _ _ _ _ _ _ us hl => match us, hl with | [_, _], _ => rfl⟩
  refine ok_defP (n := 2) (l := 5) (G' := [.z, .z, .z, .dead, .z, .dead, .dead]) (Lp := []) (mb := b__law_counts) gdT D s__law_counts rfl rfl rfl (fun _ => rfl) (fun h => by cases h) ?_
  intro cdv A outer s H S E hcd B
  have nd : (["bells", "many", "rows", "minute", "alone", "row", "floor"] : List Str).Nodup := by decide +kernel
  change VSs _ _ _ _ _ [.z, .z, .dead, .dead, .dead, .dead, .dead] _ _ _ _
  exact (vss_cons (G1 := [.z, .z, .z, .dead, .dead, .dead, .dead]) (by exact (vs_set 2 (vq_fz (vq_lc (sl := [3]) (by exact B.calm) nd (ni_range1 (n_range F) (an_cons (fa := .z) (vq_z 1) an_nil)) (blkOk_by (own := [("minute", 3)]) (by rfl)) (fun _ _ _ _ _ => (vg_name 3 nd)) (fun _ _ _ _ _ => vts_nil) (fun _ _ _ _ _ => (nq_call (t := false) (f0 := .z) (c__law_rings.mono (k := 1) (by decide)) (by exact B.rm) (by exact trivial) (g__law_rings F) k__law_rings b__law_rings passes0 (an_cons (fa := .z) (vq_z 0) (an_cons (fa := .z) (vq_z 3) an_nil)))) rfl (of_decide_eq_true rfl) (by decide))) nd))
  (by exact (vss_cons (G1 := [.z, .z, .z, .dead, .own, .dead, .dead]) (by exact (vs_setLc 4 (sl := [6]) (by exact B.calm) nd (ni_range1 (n_range F) (an_cons (fa := .z) (nq_callB call_lenA lenD_ok (n_len F) (an_cons (fa := .z) (vq_z 0) an_nil)) an_nil)) (blkOk_by (own := [("floor", 6)]) (by rfl)) (fun _ _ _ _ _ => (vg_name 6 nd)) (fun _ _ _ _ _ => vts_nil) (fun _ _ _ _ _ => (nq_callB call_lenA lenD_ok (n_len F) (an_cons (fa := .own) (vq_lc (sl := [5]) (by exact B.calm) nd (vi_seq (vq_z 2)) (blkOk_by (own := [("row", 5)]) (by rfl)) (fun _ _ _ _ _ => (vg_name 5 nd)) (fun _ _ _ _ _ => (vts_one (vb_cmp (fa := .z) (fb := .z) (op_eqD (by exact hu64 B.rm)) eqD_ok (vq_z 5) (nq_tup (an_cons (fa := .z) (vq_z 6) an_nil))))) (fun _ _ _ _ _ => vq_int) rfl (of_decide_eq_true rfl) (by decide)) an_nil))) rfl (of_decide_eq_true rfl) (by decide)))
  (by exact (vss_fz 4 (hi := rfl) (vss_cons (G1 := [.z, .z, .z, .dead, .z, .dead, .dead]) (by exact (vs_ret (vq_fz (vq_op (fa := .own) (fb := .z) op_cat addL_ok (nq_lst (an_cons (fa := .z) (nq_callB call_lenA lenD_ok (n_len F) (an_cons (fa := .own) (vq_lc (sl := [5]) (by exact B.calm) nd (vi_seq (vq_z 2)) (blkOk_by (own := [("row", 5)]) (by rfl)) (fun _ _ _ _ _ => (vg_name 5 nd)) (fun _ _ _ _ _ => (vts_one (vb_cmp (fa := .z) (fb := .z) (op_eqD (by exact hu64 B.rm)) eqD_ok (nq_callB call_lenA lenD_ok (n_len F) (an_cons (fa := .z) (vq_z 5) an_nil)) (nq_callB call_lenA lenD_ok (n_len F) (an_cons (fa := .z) (vq_z 0) an_nil))))) (fun _ _ _ _ _ => vq_int) rfl (of_decide_eq_true rfl) (by decide)) an_nil)) (an_cons (fa := .z) (nq_callB call_lenA lenD_ok (n_len F) (an_cons (fa := .own) (vq_lc (sl := [5]) (by exact B.calm) nd (vi_seq (vq_z 2)) (blkOk_by (own := [("row", 5)]) (by rfl)) (fun _ _ _ _ _ => (vg_name 5 nd)) (fun _ _ _ _ _ => (vts_one (vb_cmp (fa := .z) (fb := .z) (op_neD (by exact hu64 B.rm)) neD_ok (vq_z 5) (nq_tup an_nil)))) (fun _ _ _ _ _ => vq_int) rfl (of_decide_eq_true rfl) (by decide)) an_nil)) an_nil))) (vq_z 4))) (.inl rfl)))
  (by exact vss_nil)))))))
theorem s__law_told : FnScope ["bells", "many", "found", "floor"] ["bells", "many"] (defScope (top 44)) := ⟨rfl, rfl, rfl, by decide +kernel, rfl, by decide +kernel, by decide +kernel⟩
def b__law_told : En → RS := (sSeq (sSet 2 (qlst (lcons (qF m_together_count (lcons (qv 0) (lcons (qv 1) lnil))) (lcons (qF m_ring_count (lcons (qv 0) (lcons (qv 1) lnil))) lnil))))
  (sSeq (sRet (q2 addL (qv 2) (qLC (iOf rg1 (lcons (qC lenD (lcons (qv 0) lnil)) lnil)) [3] (gN 3) bYes (qF m_alone_count (lcons (qv 0) (lcons (qv 3) (lcons (qv 1) lnil)))))))
  sNx))
def m__law_told (ds : List Dt) : R Dt := fin (b__law_told (entE ds 2))
theorem ok__law_told (F : Fx w K mg) : ∃ fd, FnP GdT P w K mg base 7 (He.ga K "_law_told") fd ["bells", "many"] (spF K Tb .z 2 m__law_told) ∧ PySem.W.keepIn K (.ref (He.ga K "_law_told")) = true ∧ Binds K fd ["bells", "many"] [] := by
  obtain ⟨fd, D⟩ := f__law_told F
  obtain ⟨fd_together_count, c_together_count, k_together_count, b_together_count⟩ := ok_together_count (P := P) (base := base) (Tb := Tb) F
  obtain ⟨fd_ring_count, c_ring_count, k_ring_count, b_ring_count⟩ := ok_ring_count (P := P) (base := base) (Tb := Tb) F
  obtain ⟨fd_alone_count, c_alone_count, k_alone_count, b_alone_count⟩ := ok_alone_count (P := P) (base := base) (Tb := Tb) F
  refine ⟨fd, ?_, D.kp, D.bindsN fun _ _ _ _ _ _ us hl => match us, hl with | [_, _], _ => rfl⟩
  refine ok_defP (n := 2) (l := 2) (G' := [.z, .z, .z, .dead]) (Lp := []) (mb := b__law_told) gdT D s__law_told rfl rfl rfl (fun _ => rfl) (fun h => by cases h) ?_
  intro cdv A outer s H S E hcd B
  have nd : (["bells", "many", "found", "floor"] : List Str).Nodup := by decide +kernel
  change VSs _ _ _ _ _ [.z, .z, .dead, .dead] _ _ _ _
  exact (vss_cons (G1 := [.z, .z, .z, .dead]) (by exact (vs_set 2 (vq_fz (nq_lst (an_cons (fa := .z) (nq_call (t := false) (f0 := .z) (c_together_count.mono (k := 6) (by decide)) (by exact B.rm) (by exact trivial) (g_together_count F) k_together_count b_together_count (by exact B.px) (an_cons (fa := .z) (vq_z 0) (an_cons (fa := .z) (vq_z 1) an_nil))) (an_cons (fa := .z) (nq_call (t := false) (f0 := .z) (c_ring_count.mono (k := 6) (by decide)) (by exact B.rm) (by exact trivial) (g_ring_count F) k_ring_count b_ring_count (by exact B.px) (an_cons (fa := .z) (vq_z 0) (an_cons (fa := .z) (vq_z 1) an_nil))) an_nil)))) nd))
  (by exact (vss_cons (G1 := [.z, .z, .z, .dead]) (by exact (vs_ret (vq_fz (vq_op (fa := .z) (fb := .own) op_cat addL_ok (vq_z 2) (vq_lc (sl := [3]) (by exact B.calm) nd (ni_range1 (n_range F) (an_cons (fa := .z) (nq_callB call_lenA lenD_ok (n_len F) (an_cons (fa := .z) (vq_z 0) an_nil)) an_nil)) (blkOk_by (own := [("floor", 3)]) (by rfl)) (fun _ _ _ _ _ => (vg_name 3 nd)) (fun _ _ _ _ _ => vts_nil) (fun _ _ _ _ _ => (nq_call (t := false) (f0 := .z) (c_alone_count.mono (k := 6) (by decide)) (by exact B.rm) (by exact trivial) (g_alone_count F) k_alone_count b_alone_count passes0 (an_cons (fa := .z) (vq_z 0) (an_cons (fa := .z) (vq_z 3) (an_cons (fa := .z) (vq_z 1) an_nil))))) rfl (of_decide_eq_true rfl) (by decide)))) (.inl rfl)))
  (by exact vss_nil))))
theorem s__law_refused_right : FnScope ["hand", "bells", "none", "bad", "odd", "words", "due"] ["hand", "bells"] (defScope (top 45)) := ⟨rfl, rfl, rfl, by decide +kernel, rfl, by decide +kernel, by decide +kernel⟩
def b__law_refused_right : En → RS := (sSeq (sAsgM (gT2 2 3) (mtup (mcons (mIo 0 m__law_bad_bells mnil) (mcons (mIo 0 m__law_any (mcons (mQ (qlst (lcons (q1 negD (qc (.int 1))) (lcons (qc .none) (lcons (qc (.bool true)) (lcons (qc (.str "5")) (lcons (q2 addD (q2 powD (qc (.int 10)) (qc (.int 18))) (qc (.int 1))) (lcons (qtup (lcons (qc (.int 3)) lnil)) lnil)))))))) mnil)) mnil))))
  (sSeq (sSetM 4 (mIo 0 m__law_any (mcons (mQ (qlst (lcons (qC lenD (lcons (qv 1) lnil)) (lcons (q1 negD (qc (.int 1))) (lcons (qc .none) (lcons (qc (.bool true)) (lcons (qc (.str "0")) lnil))))))) mnil)))
  (sSeq (sSet 5 (qlst (lcons (qLam mw__law_word (qF m_rings_at (lcons (qv 2) (lcons (qv 3) lnil)))) (lcons (qLam mw__law_word (qF m_rings_at (lcons (qv 1) (lcons (qv 3) lnil)))) lnil))))
  (sSeq (sMut appD 5 (mQ (qLam mw__law_word (qF m_next_ring (lcons (qv 2) (lcons (qc (.int 0)) lnil))))))
  (sSeq (sMut appD 5 (mQ (qLam mw__law_word (qF m_next_ring (lcons (qv 1) (lcons (qv 3) lnil))))))
  (sSeq (sMut appD 5 (mQ (qLam mw__law_word (qF m_alone_count (lcons (qv 2) (lcons (qv 4) (lcons (qv 3) lnil)))))))
  (sSeq (sMut appD 5 (mQ (qLam mw__law_word (qF m_alone_count (lcons (qv 1) (lcons (qv 4) (lcons (qv 3) lnil)))))))
  (sSeq (sMut appD 5 (mQ (qLam mw__law_word (qF m_alone_count (lcons (qv 1) (lcons (qc (.int 0)) (lcons (qv 3) lnil)))))))
  (sSeq (sMut appD 5 (mQ (qLam mw__law_word (qF m_ring_count (lcons (qv 1) (lcons (qv 3) lnil))))))
  (sSeq (sMut appD 5 (mQ (qLam mw__law_word (qF m_together_count (lcons (qv 2) (lcons (qv 3) lnil))))))
  (sSeq (sMut appD 5 (mQ (qLam mw__law_word (qF m_round_of_bells (lcons (qv 2) lnil)))))
  (sSeq (sSet 6 (qlst (lcons (qc (.str "bells")) (lcons (qc (.str "minute")) (lcons (qc (.str "bells")) (lcons (qc (.str "minute")) (lcons (qc (.str "bells")) (lcons (qc (.str "floor")) (lcons (qc (.str "minute")) (lcons (qc (.str "minute")) (lcons (qc (.str "bells")) (lcons (qc (.str "bells")) lnil))))))))))))
  (sSeq (sRet (q2 eqD (qv 5) (qv 6)))
  sNx)))))))))))))
def m__law_refused_right (d0 : Dt) (ds : List Dt) : R (Dt × Dt) := finM (b__law_refused_right (ioE d0 ds 5))
theorem ok__law_refused_right (F : Fx w K mg) (TB : ∀ p ∈ tf.map (He.cT K), LamX.TabB base mg p.1 p.2) : ∃ fd, FnP GdT P w K mg base 9 (He.ga K "_law_refused_right") fd ["hand", "bells"] (spM K (tabsK K tf) 1 m__law_refused_right) ∧ PySem.W.keepIn K (.ref (He.ga K "_law_refused_right")) = true ∧ Binds K fd ["hand", "bells"] [] := by
  obtain ⟨fd, D⟩ := f__law_refused_right F
  obtain ⟨fd__law_word, D__law_word⟩ := f__law_word F
  have b__law_wordB : Binds K fd__law_word ["call"] [] := D__law_word.bindsN fun _ _ _ _ _ _ us hl => match us, hl with | [_], _ => rfl
  obtain ⟨fd__law_any, c__law_any, k__law_any, b__law_any⟩ := ok__law_any (P := P) (base := base) (Tb := (tabsK K tf)) F
  obtain ⟨fd__law_bad_bells, c__law_bad_bells, k__law_bad_bells, b__law_bad_bells⟩ := ok__law_bad_bells (P := P) (base := base) (Tb := (tabsK K tf)) F
  obtain ⟨fd_rings_at, c_rings_at, k_rings_at, b_rings_at⟩ := ok_rings_at (P := P) (base := base) (Tb := (tabsK K tf)) F
  obtain ⟨fd_next_ring, c_next_ring, k_next_ring, b_next_ring⟩ := ok_next_ring (P := P) (base := base) (Tb := (tabsK K tf)) F
  obtain ⟨fd_alone_count, c_alone_count, k_alone_count, b_alone_count⟩ := ok_alone_count (P := P) (base := base) (Tb := (tabsK K tf)) F
  obtain ⟨fd_ring_count, c_ring_count, k_ring_count, b_ring_count⟩ := ok_ring_count (P := P) (base := base) (Tb := (tabsK K tf)) F
  obtain ⟨fd_together_count, c_together_count, k_together_count, b_together_count⟩ := ok_together_count (P := P) (base := base) (Tb := (tabsK K tf)) F
  obtain ⟨fd_round_of_bells, c_round_of_bells, k_round_of_bells, b_round_of_bells⟩ := ok_round_of_bells (P := P) (base := base) (Tb := (tabsK K tf)) F
  refine ⟨fd, ?_, D.kp, D.bindsN fun _ _ _ _ _ _ us hl => match us, hl with | [_, _], _ => rfl⟩
  refine ok_defIo (n := 1) (l := 5) (G' := [.io, .z, .z, .z, .z, .z, .z]) (Lp := []) (mb := b__law_refused_right) gdT D s__law_refused_right rfl rfl (fun _ _ => rfl) rfl ?_
  intro cdv A outer s H S a E hcd B
  have nd : (["hand", "bells", "none", "bad", "odd", "words", "due"] : List Str).Nodup := by decide +kernel
  change VSs _ _ _ _ _ [.io, .z, .dead, .dead, .dead, .dead, .dead] _ _ _ _
  exact (vss_cons (G1 := [.io, .z, .z, .z, .dead, .dead, .dead]) (by exact (vs_asgM (nm_tup (mn_cons (nm_io 0 (c__law_bad_bells.mono (k := 8) (by decide)) (by exact B.rm) (by exact trivial) (g__law_bad_bells F) k__law_bad_bells b__law_bad_bells mn_nil) (mn_cons (nm_io 0 (c__law_any.mono (k := 8) (by decide)) (by exact B.rm) (by exact trivial) (g__law_any F) k__law_any b__law_any (mn_cons (vm_q (vq_fz (nq_lst (an_cons (fa := .z) (vq_neg vq_int) (an_cons (fa := .z) vq_none (an_cons (fa := .z) vq_bool (an_cons (fa := .z) vq_str (an_cons (fa := .z) (vq_op (fa := .z) (fb := .z) op_addA addD_ok (vq_op (fa := .z) (fb := .z) op_pow powD_ok vq_int vq_int) vq_int) (an_cons (fa := .z) (nq_tup (an_cons (fa := .z) vq_int an_nil)) an_nil))))))))) mn_nil)) mn_nil))) (vg_t2 2 3 (by exact B.calm) nd)))
  (by exact (vss_cons (G1 := [.io, .z, .z, .z, .z, .dead, .dead]) (by exact (vs_setM 4 (nm_io 0 (c__law_any.mono (k := 8) (by decide)) (by exact B.rm) (by exact trivial) (g__law_any F) k__law_any b__law_any (mn_cons (vm_q (vq_fz (nq_lst (an_cons (fa := .z) (nq_callB call_lenA lenD_ok (n_len F) (an_cons (fa := .z) (vq_z 1) an_nil)) (an_cons (fa := .z) (vq_neg vq_int) (an_cons (fa := .z) vq_none (an_cons (fa := .z) vq_bool (an_cons (fa := .z) vq_str an_nil)))))))) mn_nil)) nd))
  (by exact (vss_cons (G1 := [.io, .z, .z, .z, .z, .own, .dead]) (by exact (vs_setO 5 (nq_lst (an_cons (fa := .z) (vq_lam (k := 6) D__law_word (by rfl) (g__law_word F) b__law_wordB s__law_word rfl (.inl rfl) (fun cdv => gv__law_word F (by exact huL B.rm) cdv _) (TB _ (tab_ct (d := ("_law_refused_right", none)) (List.Mem.head _))) (by exact code_of hcd) (by exact tab_in (d := ("_law_refused_right", none)) (List.Mem.head _)) (by exact tab_one (nd_tf F) (d := ("_law_refused_right", none)) (List.Mem.head _)) (by exact B.rm) (LamX.lamS_by (by rfl)) (by rfl) (fun _ _ _ _ _ => by rfl) (fun A1 outer1 s1 H1 E1 f1 c1 hr1 => by have B := bp_lam (E := E1) (H := H1) (outer := outer1) hr1; exact (nq_call (t := false) (f0 := .z) (c_rings_at.mono (k := 6) (by decide)) (by exact B.rm) (by exact trivial) (g_rings_at F) k_rings_at b_rings_at (by exact B.px) (an_cons (fa := .z) (vq_z 2) (an_cons (fa := .z) (vq_z 3) an_nil))))) (an_cons (fa := .z) (vq_lamD (d := "of") (k := 6) D__law_word (by rfl) (g__law_word F) b__law_wordB s__law_word rfl (.inl rfl) (fun cdv => gv__law_word F (by exact huL B.rm) cdv _) (TB _ (tab_ct (d := ("_law_refused_right", none)) (List.Mem.head _))) (by exact code_of hcd) (by exact tab_in (d := ("_law_refused_right", none)) (List.Mem.head _)) (by exact tab_one (nd_tf F) (d := ("_law_refused_right", none)) (List.Mem.head _)) (by exact B.rm) (lamD_by (by rfl)) (by rfl) (fun _ _ _ _ _ _ _ => by exact ⟨_, rfl, rfl⟩) (fun A1 outer1 s1 H1 E1 f1 c1 hr1 => by have B := bp_lam (E := E1) (H := H1) (outer := outer1) hr1; exact (nq_call (t := false) (f0 := .z) (c_rings_at.mono (k := 6) (by decide)) (by exact B.rm) (by exact trivial) (g_rings_at F) k_rings_at b_rings_at (by exact B.px) (an_cons (fa := .z) (vq_z 1) (an_cons (fa := .z) (vq_z 3) an_nil))))) an_nil))) nd))
  (by exact (vss_cons (G1 := [.io, .z, .z, .z, .z, .own, .dead]) (by exact (vs_app 5 (vm_q (vq_lam (k := 6) D__law_word (by rfl) (g__law_word F) b__law_wordB s__law_word rfl (.inl rfl) (fun cdv => gv__law_word F (by exact huL B.rm) cdv _) (TB _ (tab_ct (d := ("_law_refused_right", none)) (List.Mem.head _))) (by exact code_of hcd) (by exact tab_in (d := ("_law_refused_right", none)) (List.Mem.head _)) (by exact tab_one (nd_tf F) (d := ("_law_refused_right", none)) (List.Mem.head _)) (by exact B.rm) (LamX.lamS_by (by rfl)) (by rfl) (fun _ _ _ _ _ => by rfl) (fun A1 outer1 s1 H1 E1 f1 c1 hr1 => by have B := bp_lam (E := E1) (H := H1) (outer := outer1) hr1; exact (nq_call (t := false) (f0 := .z) (c_next_ring.mono (k := 6) (by decide)) (by exact B.rm) (by exact trivial) (g_next_ring F) k_next_ring b_next_ring (by exact B.px) (an_cons (fa := .z) (vq_z 2) (an_cons (fa := .z) vq_int an_nil))))))))
  (by exact (vss_cons (G1 := [.io, .z, .z, .z, .z, .own, .dead]) (by exact (vs_app 5 (vm_q (vq_lam (k := 6) D__law_word (by rfl) (g__law_word F) b__law_wordB s__law_word rfl (.inl rfl) (fun cdv => gv__law_word F (by exact huL B.rm) cdv _) (TB _ (tab_ct (d := ("_law_refused_right", none)) (List.Mem.head _))) (by exact code_of hcd) (by exact tab_in (d := ("_law_refused_right", none)) (List.Mem.head _)) (by exact tab_one (nd_tf F) (d := ("_law_refused_right", none)) (List.Mem.head _)) (by exact B.rm) (LamX.lamS_by (by rfl)) (by rfl) (fun _ _ _ _ _ => by rfl) (fun A1 outer1 s1 H1 E1 f1 c1 hr1 => by have B := bp_lam (E := E1) (H := H1) (outer := outer1) hr1; exact (nq_call (t := false) (f0 := .z) (c_next_ring.mono (k := 6) (by decide)) (by exact B.rm) (by exact trivial) (g_next_ring F) k_next_ring b_next_ring (by exact B.px) (an_cons (fa := .z) (vq_z 1) (an_cons (fa := .z) (vq_z 3) an_nil))))))))
  (by exact (vss_cons (G1 := [.io, .z, .z, .z, .z, .own, .dead]) (by exact (vs_app 5 (vm_q (vq_lam (k := 6) D__law_word (by rfl) (g__law_word F) b__law_wordB s__law_word rfl (.inl rfl) (fun cdv => gv__law_word F (by exact huL B.rm) cdv _) (TB _ (tab_ct (d := ("_law_refused_right", none)) (List.Mem.head _))) (by exact code_of hcd) (by exact tab_in (d := ("_law_refused_right", none)) (List.Mem.head _)) (by exact tab_one (nd_tf F) (d := ("_law_refused_right", none)) (List.Mem.head _)) (by exact B.rm) (LamX.lamS_by (by rfl)) (by rfl) (fun _ _ _ _ _ => by rfl) (fun A1 outer1 s1 H1 E1 f1 c1 hr1 => by have B := bp_lam (E := E1) (H := H1) (outer := outer1) hr1; exact (nq_call (t := false) (f0 := .z) (c_alone_count.mono (k := 6) (by decide)) (by exact B.rm) (by exact trivial) (g_alone_count F) k_alone_count b_alone_count (by exact B.px) (an_cons (fa := .z) (vq_z 2) (an_cons (fa := .z) (vq_z 4) (an_cons (fa := .z) (vq_z 3) an_nil)))))))))
  (by exact (vss_cons (G1 := [.io, .z, .z, .z, .z, .own, .dead]) (by exact (vs_app 5 (vm_q (vq_lam (k := 6) D__law_word (by rfl) (g__law_word F) b__law_wordB s__law_word rfl (.inl rfl) (fun cdv => gv__law_word F (by exact huL B.rm) cdv _) (TB _ (tab_ct (d := ("_law_refused_right", none)) (List.Mem.head _))) (by exact code_of hcd) (by exact tab_in (d := ("_law_refused_right", none)) (List.Mem.head _)) (by exact tab_one (nd_tf F) (d := ("_law_refused_right", none)) (List.Mem.head _)) (by exact B.rm) (LamX.lamS_by (by rfl)) (by rfl) (fun _ _ _ _ _ => by rfl) (fun A1 outer1 s1 H1 E1 f1 c1 hr1 => by have B := bp_lam (E := E1) (H := H1) (outer := outer1) hr1; exact (nq_call (t := false) (f0 := .z) (c_alone_count.mono (k := 6) (by decide)) (by exact B.rm) (by exact trivial) (g_alone_count F) k_alone_count b_alone_count (by exact B.px) (an_cons (fa := .z) (vq_z 1) (an_cons (fa := .z) (vq_z 4) (an_cons (fa := .z) (vq_z 3) an_nil)))))))))
  (by exact (vss_cons (G1 := [.io, .z, .z, .z, .z, .own, .dead]) (by exact (vs_app 5 (vm_q (vq_lam (k := 6) D__law_word (by rfl) (g__law_word F) b__law_wordB s__law_word rfl (.inl rfl) (fun cdv => gv__law_word F (by exact huL B.rm) cdv _) (TB _ (tab_ct (d := ("_law_refused_right", none)) (List.Mem.head _))) (by exact code_of hcd) (by exact tab_in (d := ("_law_refused_right", none)) (List.Mem.head _)) (by exact tab_one (nd_tf F) (d := ("_law_refused_right", none)) (List.Mem.head _)) (by exact B.rm) (LamX.lamS_by (by rfl)) (by rfl) (fun _ _ _ _ _ => by rfl) (fun A1 outer1 s1 H1 E1 f1 c1 hr1 => by have B := bp_lam (E := E1) (H := H1) (outer := outer1) hr1; exact (nq_call (t := false) (f0 := .z) (c_alone_count.mono (k := 6) (by decide)) (by exact B.rm) (by exact trivial) (g_alone_count F) k_alone_count b_alone_count (by exact B.px) (an_cons (fa := .z) (vq_z 1) (an_cons (fa := .z) vq_int (an_cons (fa := .z) (vq_z 3) an_nil)))))))))
  (by exact (vss_cons (G1 := [.io, .z, .z, .z, .z, .own, .dead]) (by exact (vs_app 5 (vm_q (vq_lam (k := 6) D__law_word (by rfl) (g__law_word F) b__law_wordB s__law_word rfl (.inl rfl) (fun cdv => gv__law_word F (by exact huL B.rm) cdv _) (TB _ (tab_ct (d := ("_law_refused_right", none)) (List.Mem.head _))) (by exact code_of hcd) (by exact tab_in (d := ("_law_refused_right", none)) (List.Mem.head _)) (by exact tab_one (nd_tf F) (d := ("_law_refused_right", none)) (List.Mem.head _)) (by exact B.rm) (LamX.lamS_by (by rfl)) (by rfl) (fun _ _ _ _ _ => by rfl) (fun A1 outer1 s1 H1 E1 f1 c1 hr1 => by have B := bp_lam (E := E1) (H := H1) (outer := outer1) hr1; exact (nq_call (t := false) (f0 := .z) (c_ring_count.mono (k := 6) (by decide)) (by exact B.rm) (by exact trivial) (g_ring_count F) k_ring_count b_ring_count (by exact B.px) (an_cons (fa := .z) (vq_z 1) (an_cons (fa := .z) (vq_z 3) an_nil))))))))
  (by exact (vss_cons (G1 := [.io, .z, .z, .z, .z, .own, .dead]) (by exact (vs_app 5 (vm_q (vq_lam (k := 6) D__law_word (by rfl) (g__law_word F) b__law_wordB s__law_word rfl (.inl rfl) (fun cdv => gv__law_word F (by exact huL B.rm) cdv _) (TB _ (tab_ct (d := ("_law_refused_right", none)) (List.Mem.head _))) (by exact code_of hcd) (by exact tab_in (d := ("_law_refused_right", none)) (List.Mem.head _)) (by exact tab_one (nd_tf F) (d := ("_law_refused_right", none)) (List.Mem.head _)) (by exact B.rm) (LamX.lamS_by (by rfl)) (by rfl) (fun _ _ _ _ _ => by rfl) (fun A1 outer1 s1 H1 E1 f1 c1 hr1 => by have B := bp_lam (E := E1) (H := H1) (outer := outer1) hr1; exact (nq_call (t := false) (f0 := .z) (c_together_count.mono (k := 6) (by decide)) (by exact B.rm) (by exact trivial) (g_together_count F) k_together_count b_together_count (by exact B.px) (an_cons (fa := .z) (vq_z 2) (an_cons (fa := .z) (vq_z 3) an_nil))))))))
  (by exact (vss_cons (G1 := [.io, .z, .z, .z, .z, .own, .dead]) (by exact (vs_app 5 (vm_q (vq_lam (k := 6) D__law_word (by rfl) (g__law_word F) b__law_wordB s__law_word rfl (.inl rfl) (fun cdv => gv__law_word F (by exact huL B.rm) cdv _) (TB _ (tab_ct (d := ("_law_refused_right", none)) (List.Mem.head _))) (by exact code_of hcd) (by exact tab_in (d := ("_law_refused_right", none)) (List.Mem.head _)) (by exact tab_one (nd_tf F) (d := ("_law_refused_right", none)) (List.Mem.head _)) (by exact B.rm) (LamX.lamS_by (by rfl)) (by rfl) (fun _ _ _ _ _ => by rfl) (fun A1 outer1 s1 H1 E1 f1 c1 hr1 => by have B := bp_lam (E := E1) (H := H1) (outer := outer1) hr1; exact (nq_call (t := false) (f0 := .z) (c_round_of_bells.mono (k := 6) (by decide)) (by exact B.rm) (by exact trivial) (g_round_of_bells F) k_round_of_bells b_round_of_bells (by exact B.px) (an_cons (fa := .z) (vq_z 2) an_nil)))))))
  (by exact (vss_fz 5 (hi := rfl) (vss_cons (G1 := [.io, .z, .z, .z, .z, .z, .z]) (by exact (vs_set 6 (vq_fz (nq_lst (an_cons (fa := .z) vq_str (an_cons (fa := .z) vq_str (an_cons (fa := .z) vq_str (an_cons (fa := .z) vq_str (an_cons (fa := .z) vq_str (an_cons (fa := .z) vq_str (an_cons (fa := .z) vq_str (an_cons (fa := .z) vq_str (an_cons (fa := .z) vq_str (an_cons (fa := .z) vq_str an_nil)))))))))))) nd))
  (by exact (vss_cons (G1 := [.io, .z, .z, .z, .z, .z, .z]) (by exact (vs_ret (vq_cmp (fa := .z) (fb := .z) (op_eqD (by exact hu64 B.rm)) eqD_ok (vq_z 5) (vq_z 6)) (.inr rfl)))
  (by exact vss_nil)))))))))))))))))))))))))))
theorem s_law : FnScope ["script", "hand", "bells", "turn", "whole", "times", "again", "small", "minute", "later", "rest", "part", "full", "one", "two"] ["script"] (defScope (top 46)) := ⟨rfl, rfl, rfl, by decide +kernel, rfl, by decide +kernel, by decide +kernel⟩
def b_law (ns : List Int) : En → RS := (sSeq (sSet 1 (qHand (m__law_hand ns)))
  (sSeq (sSet 2 (qtup (lcons (qtup (lcons (qc (.int 15)) (lcons (qc (.int 0)) lnil))) (lcons (qtup (lcons (qc (.int 20)) (lcons (qc (.int 5)) lnil))) lnil))))
  (sSeq (sIf (bOr (qT (q2 neD (qF m_next_ring (lcons (qv 2) (lcons (qc (.int 16)) lnil))) (qtup (lcons (qc (.int 25)) (lcons (qtup (lcons (qc (.int 1)) lnil)) lnil))))) (bOr (qT (q2 neD (qF m_together_count (lcons (qv 2) (lcons (qc (.int 45)) lnil))) (qc (.int 0)))) (qT (q2 neD (qF m_together_count (lcons (qv 2) (lcons (qc (.int 46)) lnil))) (qc (.int 1)))))) (sSeq (sRet (qc (.bool false)))
  sNx) sNx)
  (sSeq (sIf (bOr (qT (q2 neD (qF m_ring_count (lcons (qtup (lcons (qtup (lcons (qc (.int 2)) (lcons (qc (.int 0)) lnil))) (lcons (qtup (lcons (qc (.int 3)) (lcons (qc (.int 0)) lnil))) lnil))) (lcons (qc (.int 6)) lnil))) (qc (.int 4)))) (qT (q2 neD (qF m_alone_count (lcons (qtup (lcons (qtup (lcons (qc (.int 2)) (lcons (qc (.int 0)) lnil))) (lcons (qtup (lcons (qc (.int 3)) (lcons (qc (.int 0)) lnil))) lnil))) (lcons (qc (.int 0)) (lcons (qc (.int 6)) lnil)))) (qc (.int 2))))) (sSeq (sRet (qc (.bool false)))
  sNx) sNx)
  (sSeq (sFor (iOf rg1 (lcons (qc (.int 3)) lnil)) (gN 3) (sSeq (sSetM 2 (mIo 1 m__law_bells (mcons (mQ (qc (.int 4))) mnil)))
  (sSeq (sAsgM (gT2 4 5) (mtup (mcons (mQ (qF m__law_round (lcons (qv 2) lnil))) (mcons (mIo 1 m__law_any (mcons (mQ (qlst (lcons (qc (.int 0)) (lcons (qc (.int 1)) (lcons (qc (.int 7)) (lcons (q2 powD (qc (.int 10)) (qc (.int 9))) (lcons (q2 powD (qc (.int 10)) (qc (.int 16))) lnil))))))) mnil)) mnil))))
  (sSeq (sIfM (mOr (mQ (qT (q2 neD (qF m_round_of_bells (lcons (qv 2) lnil)) (qv 4)))) (mNot (mT (mIo 1 m__law_refused_right (mcons (mQ (qv 2)) mnil))))) (sSeq (sRet (qc (.bool false)))
  sNx) sNx)
  (sSeq (sFor (iOf rg1 (lcons (qc (.int 4)) lnil)) (gN 6) (sSeq (sSetM 7 (mIo 1 m__law_draw (mcons (mQ (qv 4)) mnil)))
  (sSeq (sPar2 8 9 (q2 addD (qv 7) (q2 mulD (qv 4) (qv 5))) (qv 7))
  (sSeq (whileL (qT (q2 eqD (qF m__law_rings (lcons (qv 2) (lcons (qv 9) lnil))) (qtup lnil))) (sSeq (sSet 9 (q2 addD (qv 9) (qc (.int 1))))
  sNx) 10000)
  (sSeq (sIf (qT (q2 neD (qF m_rings_at (lcons (qv 2) (lcons (qv 8) lnil))) (qF m__law_rings (lcons (qv 2) (lcons (qv 7) lnil))))) (sSeq (sRet (qc (.bool false)))
  sNx) sNx)
  (sSeq (sIf (qT (q2 neD (qF m_next_ring (lcons (qv 2) (lcons (qv 8) lnil))) (qtup (lcons (q2 addD (qv 9) (q2 mulD (qv 4) (qv 5))) (lcons (qF m__law_rings (lcons (qv 2) (lcons (qv 9) lnil))) lnil))))) (sSeq (sRet (qc (.bool false)))
  sNx) sNx)
  (sKill 6 (sKill 7 (sKill 8 (sKill 9 sNx))))))))))
  (sSeq (sSetM 10 (mIo 1 m__law_draw (mcons (mQ (qv 4)) mnil)))
  (sSeq (sPar2 11 12 (qF m__law_counts (lcons (qv 2) (lcons (qv 10) lnil))) (qF m__law_counts (lcons (qv 2) (lcons (qv 4) lnil))))
  (sSeq (sIf (qT (q2 neD (qF m__law_told (lcons (qv 2) (lcons (qv 10) lnil))) (qv 11))) (sSeq (sRet (qc (.bool false)))
  sNx) sNx)
  (sSeq (sIf (qT (q2 neD (qF m__law_told (lcons (qv 2) (lcons (q2 addD (q2 mulD (qv 4) (qv 5)) (qv 10)) lnil))) (qLC (iOf zipO (lcons (qv 11) (lcons (qv 12) lnil))) [13, 14] (gT2 13 14) bYes (q2 addD (qv 13) (q2 mulD (qv 5) (qv 14)))))) (sSeq (sRet (qc (.bool false)))
  sNx) sNx)
  (sSeq (sIf (bAnd (qT (q2 eqD (qC lenD (lcons (qv 2) lnil)) (qc (.int 2)))) (qT (q2 neD (q2 addD (q2 addD (q2 ixD (qv 12) (qc (.int 2))) (q2 ixD (qv 12) (qc (.int 3)))) (q2 ixD (qv 12) (qc (.int 0)))) (q2 ixD (qv 12) (qc (.int 1)))))) (sSeq (sRet (qc (.bool false)))
  sNx) sNx)
  (sKill 3 (sKill 4 (sKill 5 (sKill 10 (sKill 11 (sKill 12 sNx))))))))))))))))
  (sSeq (sRet (qc (.bool true)))
  sNx))))))
def m_law (ns : List Int) : R Dt := fin (b_law ns (List.replicate 15 .none))
def lb1_law : En → RS := (sSeq (sSetM 2 (mIo 1 m__law_bells (mcons (mQ (qc (.int 4))) mnil)))
  (sSeq (sAsgM (gT2 4 5) (mtup (mcons (mQ (qF m__law_round (lcons (qv 2) lnil))) (mcons (mIo 1 m__law_any (mcons (mQ (qlst (lcons (qc (.int 0)) (lcons (qc (.int 1)) (lcons (qc (.int 7)) (lcons (q2 powD (qc (.int 10)) (qc (.int 9))) (lcons (q2 powD (qc (.int 10)) (qc (.int 16))) lnil))))))) mnil)) mnil))))
  (sSeq (sIfM (mOr (mQ (qT (q2 neD (qF m_round_of_bells (lcons (qv 2) lnil)) (qv 4)))) (mNot (mT (mIo 1 m__law_refused_right (mcons (mQ (qv 2)) mnil))))) (sSeq (sRet (qc (.bool false)))
  sNx) sNx)
  (sSeq (sFor (iOf rg1 (lcons (qc (.int 4)) lnil)) (gN 6) (sSeq (sSetM 7 (mIo 1 m__law_draw (mcons (mQ (qv 4)) mnil)))
  (sSeq (sPar2 8 9 (q2 addD (qv 7) (q2 mulD (qv 4) (qv 5))) (qv 7))
  (sSeq (whileL (qT (q2 eqD (qF m__law_rings (lcons (qv 2) (lcons (qv 9) lnil))) (qtup lnil))) (sSeq (sSet 9 (q2 addD (qv 9) (qc (.int 1))))
  sNx) 10000)
  (sSeq (sIf (qT (q2 neD (qF m_rings_at (lcons (qv 2) (lcons (qv 8) lnil))) (qF m__law_rings (lcons (qv 2) (lcons (qv 7) lnil))))) (sSeq (sRet (qc (.bool false)))
  sNx) sNx)
  (sSeq (sIf (qT (q2 neD (qF m_next_ring (lcons (qv 2) (lcons (qv 8) lnil))) (qtup (lcons (q2 addD (qv 9) (q2 mulD (qv 4) (qv 5))) (lcons (qF m__law_rings (lcons (qv 2) (lcons (qv 9) lnil))) lnil))))) (sSeq (sRet (qc (.bool false)))
  sNx) sNx)
  (sKill 6 (sKill 7 (sKill 8 (sKill 9 sNx))))))))))
  (sSeq (sSetM 10 (mIo 1 m__law_draw (mcons (mQ (qv 4)) mnil)))
  (sSeq (sPar2 11 12 (qF m__law_counts (lcons (qv 2) (lcons (qv 10) lnil))) (qF m__law_counts (lcons (qv 2) (lcons (qv 4) lnil))))
  (sSeq (sIf (qT (q2 neD (qF m__law_told (lcons (qv 2) (lcons (qv 10) lnil))) (qv 11))) (sSeq (sRet (qc (.bool false)))
  sNx) sNx)
  (sSeq (sIf (qT (q2 neD (qF m__law_told (lcons (qv 2) (lcons (q2 addD (q2 mulD (qv 4) (qv 5)) (qv 10)) lnil))) (qLC (iOf zipO (lcons (qv 11) (lcons (qv 12) lnil))) [13, 14] (gT2 13 14) bYes (q2 addD (qv 13) (q2 mulD (qv 5) (qv 14)))))) (sSeq (sRet (qc (.bool false)))
  sNx) sNx)
  (sSeq (sIf (bAnd (qT (q2 eqD (qC lenD (lcons (qv 2) lnil)) (qc (.int 2)))) (qT (q2 neD (q2 addD (q2 addD (q2 ixD (qv 12) (qc (.int 2))) (q2 ixD (qv 12) (qc (.int 3)))) (q2 ixD (qv 12) (qc (.int 0)))) (q2 ixD (qv 12) (qc (.int 1)))))) (sSeq (sRet (qc (.bool false)))
  sNx) sNx)
  (sKill 3 (sKill 4 (sKill 5 (sKill 10 (sKill 11 (sKill 12 sNx)))))))))))))))
def lb2_law : En → RS := (sSeq (sSetM 7 (mIo 1 m__law_draw (mcons (mQ (qv 4)) mnil)))
  (sSeq (sPar2 8 9 (q2 addD (qv 7) (q2 mulD (qv 4) (qv 5))) (qv 7))
  (sSeq (whileL (qT (q2 eqD (qF m__law_rings (lcons (qv 2) (lcons (qv 9) lnil))) (qtup lnil))) (sSeq (sSet 9 (q2 addD (qv 9) (qc (.int 1))))
  sNx) 10000)
  (sSeq (sIf (qT (q2 neD (qF m_rings_at (lcons (qv 2) (lcons (qv 8) lnil))) (qF m__law_rings (lcons (qv 2) (lcons (qv 7) lnil))))) (sSeq (sRet (qc (.bool false)))
  sNx) sNx)
  (sSeq (sIf (qT (q2 neD (qF m_next_ring (lcons (qv 2) (lcons (qv 8) lnil))) (qtup (lcons (q2 addD (qv 9) (q2 mulD (qv 4) (qv 5))) (lcons (qF m__law_rings (lcons (qv 2) (lcons (qv 9) lnil))) lnil))))) (sSeq (sRet (qc (.bool false)))
  sNx) sNx)
  (sKill 6 (sKill 7 (sKill 8 (sKill 9 sNx)))))))))
def lb3_law : En → RS := (sSeq (sSet 9 (q2 addD (qv 9) (qc (.int 1))))
  sNx)
theorem ok_law (F : Fx w K mg) (TB : ∀ p ∈ tf.map (He.cT K), LamX.TabB base mg p.1 p.2) {fd : FuncData} (D : FunD K "law" "law" (defArgs (top 46)) (defBody (top 46)) (defScope (top 46)) [] [] (He.ga K "law") fd) : FnP GdT P w K mg base 10 (He.ga K "law") fd ["script"] (spL K (tabsK K tf) m_law) := by
  obtain ⟨fd__law_hand, c__law_hand, k__law_hand, b__law_hand⟩ := ok__law_hand (P := P) (base := base) (Tb := (tabsK K tf)) F
  obtain ⟨fd__law_bells, c__law_bells, k__law_bells, b__law_bells⟩ := ok__law_bells (P := P) (base := base) (Tb := (tabsK K tf)) F
  obtain ⟨fd__law_draw, c__law_draw, k__law_draw, b__law_draw⟩ := ok__law_draw (P := P) (base := base) (Tb := (tabsK K tf)) F
  obtain ⟨fd_next_ring, c_next_ring, k_next_ring, b_next_ring⟩ := ok_next_ring (P := P) (base := base) (Tb := (tabsK K tf)) F
  obtain ⟨fd_together_count, c_together_count, k_together_count, b_together_count⟩ := ok_together_count (P := P) (base := base) (Tb := (tabsK K tf)) F
  obtain ⟨fd_ring_count, c_ring_count, k_ring_count, b_ring_count⟩ := ok_ring_count (P := P) (base := base) (Tb := (tabsK K tf)) F
  obtain ⟨fd_alone_count, c_alone_count, k_alone_count, b_alone_count⟩ := ok_alone_count (P := P) (base := base) (Tb := (tabsK K tf)) F
  obtain ⟨fd__law_round, c__law_round, k__law_round, b__law_round⟩ := ok__law_round (P := P) (base := base) (Tb := (tabsK K tf)) F
  obtain ⟨fd__law_any, c__law_any, k__law_any, b__law_any⟩ := ok__law_any (P := P) (base := base) (Tb := (tabsK K tf)) F
  obtain ⟨fd__law_counts, c__law_counts, k__law_counts, b__law_counts⟩ := ok__law_counts (P := P) (base := base) (Tb := (tabsK K tf)) F
  obtain ⟨fd__law_told, c__law_told, k__law_told, b__law_told⟩ := ok__law_told (P := P) (base := base) (Tb := (tabsK K tf)) F
  obtain ⟨fd_round_of_bells, c_round_of_bells, k_round_of_bells, b_round_of_bells⟩ := ok_round_of_bells (P := P) (base := base) (Tb := (tabsK K tf)) F
  obtain ⟨fd__law_refused_right, c__law_refused_right, k__law_refused_right, b__law_refused_right⟩ := ok__law_refused_right (P := P) (base := base) F TB
  obtain ⟨fd__law_rings, c__law_rings, k__law_rings, b__law_rings⟩ := ok__law_rings (P := P) (base := base) (Tb := (tabsK K tf)) F
  obtain ⟨fd_rings_at, c_rings_at, k_rings_at, b_rings_at⟩ := ok_rings_at (P := P) (base := base) (Tb := (tabsK K tf)) F
  refine ok_defL (l := 14) (G' := []) (Lp := []) (mb := b_law) gdT D s_law rfl rfl (fun _ => rfl) ?_
  intro cdv A outer s H a ns E hcd hS B
  have nd : (["script", "hand", "bells", "turn", "whole", "times", "again", "small", "minute", "later", "rest", "part", "full", "one", "two"] : List Str).Nodup := by decide +kernel
  change VSs _ _ _ _ _ [.ptr a, .dead, .dead, .dead, .dead, .dead, .dead, .dead, .dead, .dead, .dead, .dead, .dead, .dead, .dead] _ _ _ _
  exact (vss_end (G1 := [.ptr a, .z, .z, .dead, .dead, .dead, .dead, .dead, .dead, .dead, .dead, .dead, .dead, .dead, .dead]) (vss_cons (G1 := [.ptr a, .own, .dead, .dead, .dead, .dead, .dead, .dead, .dead, .dead, .dead, .dead, .dead, .dead, .dead]) (by exact (vs_setO 1 (vq_hand (c__law_hand.mono (k := 9) (by decide)) (by exact B.rm) (by exact trivial) (g__law_hand F) k__law_hand b__law_hand hS rfl) nd))
  (by exact (vss_cons (G1 := [.ptr a, .own, .z, .dead, .dead, .dead, .dead, .dead, .dead, .dead, .dead, .dead, .dead, .dead, .dead]) (by exact (vs_set 2 (nq_tup (an_cons (fa := .z) (nq_tup (an_cons (fa := .z) vq_int (an_cons (fa := .z) vq_int an_nil))) (an_cons (fa := .z) (nq_tup (an_cons (fa := .z) vq_int (an_cons (fa := .z) vq_int an_nil))) an_nil))) nd))
  (by exact (vss_cons (G1 := [.ptr a, .own, .z, .dead, .dead, .dead, .dead, .dead, .dead, .dead, .dead, .dead, .dead, .dead, .dead]) (by exact (vs_if (G' := [.ptr a, .own, .z, .dead, .dead, .dead, .dead, .dead, .dead, .dead, .dead, .dead, .dead, .dead, .dead]) (vb_w (vw_or (vb_cmp (fa := .z) (fb := .z) (op_neD (by exact hu64 B.rm)) neD_ok (nq_call (t := false) (f0 := .z) (c_next_ring.mono (k := 9) (by decide)) (by exact B.rm) (by exact trivial) (g_next_ring F) k_next_ring b_next_ring (by exact B.px) (an_cons (fa := .z) (vq_z 2) (an_cons (fa := .z) vq_int an_nil))) (nq_tup (an_cons (fa := .z) vq_int (an_cons (fa := .z) (nq_tup (an_cons (fa := .z) vq_int an_nil)) an_nil)))) (vw_or (vb_cmp (fa := .z) (fb := .z) (op_neD (by exact hu64 B.rm)) neD_ok (nq_call (t := false) (f0 := .z) (c_together_count.mono (k := 9) (by decide)) (by exact B.rm) (by exact trivial) (g_together_count F) k_together_count b_together_count (by exact B.px) (an_cons (fa := .z) (vq_z 2) (an_cons (fa := .z) vq_int an_nil))) vq_int) (vw_or1 (vb_cmp (fa := .z) (fb := .z) (op_neD (by exact hu64 B.rm)) neD_ok (nq_call (t := false) (f0 := .z) (c_together_count.mono (k := 9) (by decide)) (by exact B.rm) (by exact trivial) (g_together_count F) k_together_count b_together_count (by exact B.px) (an_cons (fa := .z) (vq_z 2) (an_cons (fa := .z) vq_int an_nil))) vq_int))))) (vss_end (G1 := [.ptr a, .z, .z, .dead, .dead, .dead, .dead, .dead, .dead, .dead, .dead, .dead, .dead, .dead, .dead]) (vss_fz 1 (hi := rfl) (vss_cons (G1 := [.ptr a, .z, .z, .dead, .dead, .dead, .dead, .dead, .dead, .dead, .dead, .dead, .dead, .dead, .dead]) (by exact (vs_ret vq_bool (.inl rfl)))
  (by exact vss_nil))) (nx1 nx_ret)) vss_nil))
  (by exact (vss_cons (G1 := [.ptr a, .own, .z, .dead, .dead, .dead, .dead, .dead, .dead, .dead, .dead, .dead, .dead, .dead, .dead]) (by exact (vs_if (G' := [.ptr a, .own, .z, .dead, .dead, .dead, .dead, .dead, .dead, .dead, .dead, .dead, .dead, .dead, .dead]) (vb_w (vw_or (vb_cmp (fa := .z) (fb := .z) (op_neD (by exact hu64 B.rm)) neD_ok (nq_call (t := false) (f0 := .z) (c_ring_count.mono (k := 9) (by decide)) (by exact B.rm) (by exact trivial) (g_ring_count F) k_ring_count b_ring_count (by exact B.px) (an_cons (fa := .z) (nq_tup (an_cons (fa := .z) (nq_tup (an_cons (fa := .z) vq_int (an_cons (fa := .z) vq_int an_nil))) (an_cons (fa := .z) (nq_tup (an_cons (fa := .z) vq_int (an_cons (fa := .z) vq_int an_nil))) an_nil))) (an_cons (fa := .z) vq_int an_nil))) vq_int) (vw_or1 (vb_cmp (fa := .z) (fb := .z) (op_neD (by exact hu64 B.rm)) neD_ok (nq_call (t := false) (f0 := .z) (c_alone_count.mono (k := 9) (by decide)) (by exact B.rm) (by exact trivial) (g_alone_count F) k_alone_count b_alone_count (by exact B.px) (an_cons (fa := .z) (nq_tup (an_cons (fa := .z) (nq_tup (an_cons (fa := .z) vq_int (an_cons (fa := .z) vq_int an_nil))) (an_cons (fa := .z) (nq_tup (an_cons (fa := .z) vq_int (an_cons (fa := .z) vq_int an_nil))) an_nil))) (an_cons (fa := .z) vq_int (an_cons (fa := .z) vq_int an_nil)))) vq_int)))) (vss_end (G1 := [.ptr a, .z, .z, .dead, .dead, .dead, .dead, .dead, .dead, .dead, .dead, .dead, .dead, .dead, .dead]) (vss_fz 1 (hi := rfl) (vss_cons (G1 := [.ptr a, .z, .z, .dead, .dead, .dead, .dead, .dead, .dead, .dead, .dead, .dead, .dead, .dead, .dead]) (by exact (vs_ret vq_bool (.inl rfl)))
  (by exact vss_nil))) (nx1 nx_ret)) vss_nil))
  (by exact (vss_cons (G1 := [.ptr a, .own, .z, .dead, .dead, .dead, .dead, .dead, .dead, .dead, .dead, .dead, .dead, .dead, .dead]) (by exact (vs_for (ni_range1 (n_range F) (an_cons (fa := .z) vq_int an_nil)) (vg_name 3 nd) (vss_cons (G1 := [.ptr a, .own, .z, .z, .dead, .dead, .dead, .dead, .dead, .dead, .dead, .dead, .dead, .dead, .dead]) (by exact (vs_setM 2 (nm_io 1 (c__law_bells.mono (k := 9) (by decide)) (by exact B.rm) (by exact trivial) (g__law_bells F) k__law_bells b__law_bells (mn_cons (vm_q vq_int) mn_nil)) nd))
  (by exact (vss_cons (G1 := [.ptr a, .own, .z, .z, .z, .z, .dead, .dead, .dead, .dead, .dead, .dead, .dead, .dead, .dead]) (by exact (vs_asgM (nm_tup (mn_cons (vm_q (nq_call (t := false) (f0 := .z) (c__law_round.mono (k := 9) (by decide)) (by exact B.rm) (by exact trivial) (g__law_round F) k__law_round b__law_round passes0 (an_cons (fa := .z) (vq_z 2) an_nil))) (mn_cons (nm_io 1 (c__law_any.mono (k := 9) (by decide)) (by exact B.rm) (by exact trivial) (g__law_any F) k__law_any b__law_any (mn_cons (vm_q (vq_fz (nq_lst (an_cons (fa := .z) vq_int (an_cons (fa := .z) vq_int (an_cons (fa := .z) vq_int (an_cons (fa := .z) (vq_op (fa := .z) (fb := .z) op_pow powD_ok vq_int vq_int) (an_cons (fa := .z) (vq_op (fa := .z) (fb := .z) op_pow powD_ok vq_int vq_int) an_nil)))))))) mn_nil)) mn_nil))) (vg_t2 4 5 (by exact B.calm) nd)))
  (by exact (vss_cons (G1 := [.ptr a, .own, .z, .z, .z, .z, .dead, .dead, .dead, .dead, .dead, .dead, .dead, .dead, .dead]) (by exact (vs_ifM (G' := [.ptr a, .own, .z, .z, .z, .z, .dead, .dead, .dead, .dead, .dead, .dead, .dead, .dead, .dead]) (vmb_w (vmw_or (vmb_q (vb_cmp (fa := .z) (fb := .z) (op_neD (by exact hu64 B.rm)) neD_ok (nq_call (t := false) (f0 := .z) (c_round_of_bells.mono (k := 9) (by decide)) (by exact B.rm) (by exact trivial) (g_round_of_bells F) k_round_of_bells b_round_of_bells passes0 (an_cons (fa := .z) (vq_z 2) an_nil)) (vq_z 4))) (vmw_or1 (vmb_not (vmb_val (nm_io 1 (c__law_refused_right.mono (k := 9) (by decide)) (by exact B.rm) (by exact trivial) (g__law_refused_right F) k__law_refused_right b__law_refused_right (mn_cons (vm_q (vq_z 2)) mn_nil))))))) (vss_end (G1 := [.ptr a, .own, .z, .z, .z, .z, .dead, .dead, .dead, .dead, .dead, .dead, .dead, .dead, .dead]) (vss_cons (G1 := [.ptr a, .own, .z, .z, .z, .z, .dead, .dead, .dead, .dead, .dead, .dead, .dead, .dead, .dead]) (by exact (vs_ret vq_bool (.inl rfl)))
  (by exact vss_nil)) (nx1 nx_ret)) vss_nil))
  (by exact (vss_cons (G1 := [.ptr a, .own, .z, .z, .z, .z, .dead, .dead, .dead, .dead, .dead, .dead, .dead, .dead, .dead]) (by exact (vs_for (ni_range1 (n_range F) (an_cons (fa := .z) vq_int an_nil)) (vg_name 6 nd) (vss_cons (G1 := [.ptr a, .own, .z, .z, .z, .z, .z, .z, .dead, .dead, .dead, .dead, .dead, .dead, .dead]) (by exact (vs_setM 7 (nm_io 1 (c__law_draw.mono (k := 9) (by decide)) (by exact B.rm) (by exact trivial) (g__law_draw F) k__law_draw b__law_draw (mn_cons (vm_q (vq_z 4)) mn_nil)) nd))
  (by exact (vss_cons (G1 := [.ptr a, .own, .z, .z, .z, .z, .z, .z, .z, .z, .dead, .dead, .dead, .dead, .dead]) (by exact (vs_par2 8 9 (f1 := .z) (f2 := .z) (vq_op (fa := .z) (fb := .z) op_addA addD_ok (vq_z 7) (vq_op (fa := .z) (fb := .z) op_mulA mulD_ok (vq_z 4) (vq_z 5))) (vq_z 7) rfl rfl (by exact B.calm) nd))
  (by exact (vss_cons (G1 := [.ptr a, .own, .z, .z, .z, .z, .z, .z, .z, .z, .dead, .dead, .dead, .dead, .dead]) (by exact (vs_while 10000 (vb_cmp (fa := .z) (fb := .z) (op_eqD (by exact hu64 B.rm)) eqD_ok (nq_call (t := false) (f0 := .z) (c__law_rings.mono (k := 9) (by decide)) (by exact B.rm) (by exact trivial) (g__law_rings F) k__law_rings b__law_rings (by exact B.px) (an_cons (fa := .z) (vq_z 2) (an_cons (fa := .z) (vq_z 9) an_nil))) (nq_tup an_nil)) (vss_cons (G1 := [.ptr a, .own, .z, .z, .z, .z, .z, .z, .z, .z, .dead, .dead, .dead, .dead, .dead]) (by exact (vs_set 9 (vq_op (fa := .z) (fb := .z) op_addA addD_ok (vq_z 9) vq_int) nd))
  (by exact vss_nil)) B.po))
  (by exact (vss_cons (G1 := [.ptr a, .own, .z, .z, .z, .z, .z, .z, .z, .z, .dead, .dead, .dead, .dead, .dead]) (by exact (vs_if (G' := [.ptr a, .own, .z, .z, .z, .z, .z, .z, .z, .z, .dead, .dead, .dead, .dead, .dead]) (vb_cmp (fa := .z) (fb := .z) (op_neD (by exact hu64 B.rm)) neD_ok (nq_call (t := false) (f0 := .z) (c_rings_at.mono (k := 9) (by decide)) (by exact B.rm) (by exact trivial) (g_rings_at F) k_rings_at b_rings_at (by exact B.px) (an_cons (fa := .z) (vq_z 2) (an_cons (fa := .z) (vq_z 8) an_nil))) (nq_call (t := false) (f0 := .z) (c__law_rings.mono (k := 9) (by decide)) (by exact B.rm) (by exact trivial) (g__law_rings F) k__law_rings b__law_rings (by exact B.px) (an_cons (fa := .z) (vq_z 2) (an_cons (fa := .z) (vq_z 7) an_nil)))) (vss_end (G1 := [.ptr a, .own, .z, .z, .z, .z, .z, .z, .z, .z, .dead, .dead, .dead, .dead, .dead]) (vss_cons (G1 := [.ptr a, .own, .z, .z, .z, .z, .z, .z, .z, .z, .dead, .dead, .dead, .dead, .dead]) (by exact (vs_ret vq_bool (.inl rfl)))
  (by exact vss_nil)) (nx1 nx_ret)) vss_nil))
  (by exact (vss_cons (G1 := [.ptr a, .own, .z, .z, .z, .z, .z, .z, .z, .z, .dead, .dead, .dead, .dead, .dead]) (by exact (vs_if (G' := [.ptr a, .own, .z, .z, .z, .z, .z, .z, .z, .z, .dead, .dead, .dead, .dead, .dead]) (vb_cmp (fa := .z) (fb := .z) (op_neD (by exact hu64 B.rm)) neD_ok (nq_call (t := false) (f0 := .z) (c_next_ring.mono (k := 9) (by decide)) (by exact B.rm) (by exact trivial) (g_next_ring F) k_next_ring b_next_ring (by exact B.px) (an_cons (fa := .z) (vq_z 2) (an_cons (fa := .z) (vq_z 8) an_nil))) (nq_tup (an_cons (fa := .z) (vq_op (fa := .z) (fb := .z) op_addA addD_ok (vq_z 9) (vq_op (fa := .z) (fb := .z) op_mulA mulD_ok (vq_z 4) (vq_z 5))) (an_cons (fa := .z) (nq_call (t := false) (f0 := .z) (c__law_rings.mono (k := 9) (by decide)) (by exact B.rm) (by exact trivial) (g__law_rings F) k__law_rings b__law_rings (by exact B.px) (an_cons (fa := .z) (vq_z 2) (an_cons (fa := .z) (vq_z 9) an_nil))) an_nil)))) (vss_end (G1 := [.ptr a, .own, .z, .z, .z, .z, .z, .z, .z, .z, .dead, .dead, .dead, .dead, .dead]) (vss_cons (G1 := [.ptr a, .own, .z, .z, .z, .z, .z, .z, .z, .z, .dead, .dead, .dead, .dead, .dead]) (by exact (vs_ret vq_bool (.inl rfl)))
  (by exact vss_nil)) (nx1 nx_ret)) vss_nil))
  (by exact (vss_kill 6 (hi := of_decide_eq_true rfl) (vss_kill 7 (hi := of_decide_eq_true rfl) (vss_kill 8 (hi := of_decide_eq_true rfl) (vss_kill 9 (hi := of_decide_eq_true rfl) vss_nil)))))))))))))) B.po B.calm))
  (by exact (vss_cons (G1 := [.ptr a, .own, .z, .z, .z, .z, .dead, .dead, .dead, .dead, .z, .dead, .dead, .dead, .dead]) (by exact (vs_setM 10 (nm_io 1 (c__law_draw.mono (k := 9) (by decide)) (by exact B.rm) (by exact trivial) (g__law_draw F) k__law_draw b__law_draw (mn_cons (vm_q (vq_z 4)) mn_nil)) nd))
  (by exact (vss_cons (G1 := [.ptr a, .own, .z, .z, .z, .z, .dead, .dead, .dead, .dead, .z, .z, .z, .dead, .dead]) (by exact (vs_par2 11 12 (f1 := .z) (f2 := .z) (nq_call (t := false) (f0 := .z) (c__law_counts.mono (k := 9) (by decide)) (by exact B.rm) (by exact trivial) (g__law_counts F) k__law_counts b__law_counts (by exact B.px) (an_cons (fa := .z) (vq_z 2) (an_cons (fa := .z) (vq_z 10) an_nil))) (nq_call (t := false) (f0 := .z) (c__law_counts.mono (k := 9) (by decide)) (by exact B.rm) (by exact trivial) (g__law_counts F) k__law_counts b__law_counts (by exact B.px) (an_cons (fa := .z) (vq_z 2) (an_cons (fa := .z) (vq_z 4) an_nil))) rfl rfl (by exact B.calm) nd))
  (by exact (vss_cons (G1 := [.ptr a, .own, .z, .z, .z, .z, .dead, .dead, .dead, .dead, .z, .z, .z, .dead, .dead]) (by exact (vs_if (G' := [.ptr a, .own, .z, .z, .z, .z, .dead, .dead, .dead, .dead, .z, .z, .z, .dead, .dead]) (vb_cmp (fa := .z) (fb := .z) (op_neD (by exact hu64 B.rm)) neD_ok (nq_call (t := false) (f0 := .z) (c__law_told.mono (k := 9) (by decide)) (by exact B.rm) (by exact trivial) (g__law_told F) k__law_told b__law_told (by exact B.px) (an_cons (fa := .z) (vq_z 2) (an_cons (fa := .z) (vq_z 10) an_nil))) (vq_z 11)) (vss_end (G1 := [.ptr a, .own, .z, .z, .z, .z, .dead, .dead, .dead, .dead, .z, .z, .z, .dead, .dead]) (vss_cons (G1 := [.ptr a, .own, .z, .z, .z, .z, .dead, .dead, .dead, .dead, .z, .z, .z, .dead, .dead]) (by exact (vs_ret vq_bool (.inl rfl)))
  (by exact vss_nil)) (nx1 nx_ret)) vss_nil))
  (by exact (vss_cons (G1 := [.ptr a, .own, .z, .z, .z, .z, .dead, .dead, .dead, .dead, .z, .z, .z, .dead, .dead]) (by exact (vs_if (G' := [.ptr a, .own, .z, .z, .z, .z, .dead, .dead, .dead, .dead, .z, .z, .z, .dead, .dead]) (vb_cmp (fa := .z) (fb := .own) (op_neD (by exact hu64 B.rm)) neD_ok (nq_call (t := false) (f0 := .z) (c__law_told.mono (k := 9) (by decide)) (by exact B.rm) (by exact trivial) (g__law_told F) k__law_told b__law_told (by exact B.px) (an_cons (fa := .z) (vq_z 2) (an_cons (fa := .z) (vq_op (fa := .z) (fb := .z) op_addA addD_ok (vq_op (fa := .z) (fb := .z) op_mulA mulD_ok (vq_z 4) (vq_z 5)) (vq_z 10)) an_nil))) (vq_lc (sl := [13, 14]) (by exact B.calm) nd (ni_zip (n_zip F) (an_cons (fa := .z) (vq_z 11) (an_cons (fa := .z) (vq_z 12) an_nil))) (blkOk_by (own := [("one", 13), ("two", 14)]) (by rfl)) (fun _ _ _ _ _ => (vg_t2 13 14 (by exact B.calm) nd)) (fun _ _ _ _ _ => vts_nil) (fun _ _ _ _ _ => (vq_op (fa := .z) (fb := .z) op_addA addD_ok (vq_z 13) (vq_op (fa := .z) (fb := .z) op_mulA mulD_ok (vq_z 5) (vq_z 14)))) rfl (of_decide_eq_true rfl) (by decide))) (vss_end (G1 := [.ptr a, .own, .z, .z, .z, .z, .dead, .dead, .dead, .dead, .z, .z, .z, .dead, .dead]) (vss_cons (G1 := [.ptr a, .own, .z, .z, .z, .z, .dead, .dead, .dead, .dead, .z, .z, .z, .dead, .dead]) (by exact (vs_ret vq_bool (.inl rfl)))
  (by exact vss_nil)) (nx1 nx_ret)) vss_nil))
  (by exact (vss_cons (G1 := [.ptr a, .own, .z, .z, .z, .z, .dead, .dead, .dead, .dead, .z, .z, .z, .dead, .dead]) (by exact (vs_if (G' := [.ptr a, .own, .z, .z, .z, .z, .dead, .dead, .dead, .dead, .z, .z, .z, .dead, .dead]) (vb_w (vw_and (vb_cmp (fa := .z) (fb := .z) (op_eqD (by exact hu64 B.rm)) eqD_ok (nq_callB call_lenA lenD_ok (n_len F) (an_cons (fa := .z) (vq_z 2) an_nil)) vq_int) (vw_and1 (vb_cmp (fa := .z) (fb := .z) (op_neD (by exact hu64 B.rm)) neD_ok (vq_op (fa := .z) (fb := .z) op_addA addD_ok (vq_op (fa := .z) (fb := .z) op_addA addD_ok (vq_ix (fa := .z) (fb := .z) (vq_z 12) vq_int) (vq_ix (fa := .z) (fb := .z) (vq_z 12) vq_int)) (vq_ix (fa := .z) (fb := .z) (vq_z 12) vq_int)) (vq_ix (fa := .z) (fb := .z) (vq_z 12) vq_int))))) (vss_end (G1 := [.ptr a, .own, .z, .z, .z, .z, .dead, .dead, .dead, .dead, .z, .z, .z, .dead, .dead]) (vss_cons (G1 := [.ptr a, .own, .z, .z, .z, .z, .dead, .dead, .dead, .dead, .z, .z, .z, .dead, .dead]) (by exact (vs_ret vq_bool (.inl rfl)))
  (by exact vss_nil)) (nx1 nx_ret)) vss_nil))
  (by exact (vss_kill 3 (hi := of_decide_eq_true rfl) (vss_kill 4 (hi := of_decide_eq_true rfl) (vss_kill 5 (hi := of_decide_eq_true rfl) (vss_kill 10 (hi := of_decide_eq_true rfl) (vss_kill 11 (hi := of_decide_eq_true rfl) (vss_kill 12 (hi := of_decide_eq_true rfl) vss_nil)))))))))))))))))))))))) B.po B.calm))
  (by exact (vss_fz 1 (hi := rfl) (vss_cons (G1 := [.ptr a, .z, .z, .dead, .dead, .dead, .dead, .dead, .dead, .dead, .dead, .dead, .dead, .dead, .dead]) (by exact (vs_ret vq_bool (.inl rfl)))
  (by exact vss_nil))))))))))))) (nx2 (nx2 (nx2 (nx2 (nx2 (nx1 nx_ret)))))))
end
end K42
namespace K42
/-! ### minutes counted -/
abbrev Bell := Nat × Nat
def rg (t : Nat) (b : Bell) : Bool := t % b.1 == b.2
def cnt (P : Nat → Bool) (n : Nat) : Nat := (List.range n).countP P
theorem cnt_zero (P : Nat → Bool) : cnt P 0 = 0 := rfl
theorem cnt_succ (P : Nat → Bool) (n : Nat) : cnt P (n + 1) = cnt P n + if P n = true then 1 else 0 := by
  unfold cnt
  rw [List.range_succ, List.countP_append, List.countP_singleton]
theorem cnt_congr {P Q : Nat → Bool} {n : Nat} (h : ∀ t, t < n → P t = Q t) : cnt P n = cnt Q n := by
  induction n with
  | zero => rfl
  | succ n ih => rw [cnt_succ, cnt_succ, ih fun t ht => h t (by omega), h n (by omega)]
theorem cnt_none {P : Nat → Bool} {n : Nat} (h : ∀ t, t < n → P t = false) : cnt P n = 0 := by
  induction n with
  | zero => rfl
  | succ n ih => rw [cnt_succ, ih fun t ht => h t (by omega), h n (by omega)]; rfl
/-- minutes with a given rest -/
theorem cnt_mod {s m : Nat} (h : m < s) (n : Nat) : cnt (fun t => t % s == m) n = if m ≥ n then 0 else (n - 1 - m) / s + 1 := by
  induction n with
  | zero => rw [if_pos (by omega)]; rfl
  | succ n ih =>
    rw [cnt_succ, ih]
    have e : ((n % s == m) = true) ↔ n % s = m := beq_iff_eq
    by_cases h1 : n < m
    · have h2 : n % s = n := Nat.mod_eq_of_lt (by omega)
      rw [if_pos (show m ≥ n by omega), if_pos (show m ≥ n + 1 by omega), if_neg (show ¬ (n % s == m) = true by rw [e]; omega)]
    · by_cases h2 : n = m
      · subst h2
        rw [if_pos (show n ≥ n from Nat.le_refl n), if_neg (show ¬ n ≥ n + 1 by omega), if_pos (show (n % s == n) = true by rw [e]; exact Nat.mod_eq_of_lt h)]
        rw [show n + 1 - 1 - n = 0 by omega, Nat.zero_div]
      · rw [if_neg (show ¬ m ≥ n by omega), if_neg (show ¬ m ≥ n + 1 by omega)]
        have h3 : n + 1 - 1 - m = (n - 1 - m) + 1 := by omega
        rw [h3, Nat.succ_div]
        have h4 : s ∣ n - 1 - m + 1 ↔ n % s = m := by
          rw [show n - 1 - m + 1 = n - m by omega]
          constructor
          · rintro ⟨k, hk⟩
            have : n = m + s * k := by omega
            rw [this, Nat.add_mul_mod_self_left, Nat.mod_eq_of_lt h]
          · intro hm
            refine ⟨n / s, ?_⟩
            have := Nat.div_add_mod n s
            omega
        by_cases h5 : n % s = m
        · rw [if_pos (h4.mpr h5), if_pos (e.mpr h5)]

        · rw [if_neg (fun z => h5 (h4.mp z)), if_neg (fun z => h5 (e.mp z))]

theorem cnt_add (P : Nat → Bool) (a b : Nat) : cnt P (a + b) = cnt P a + cnt (fun t => P (a + t)) b := by
  induction b with
  | zero => rfl
  | succ b ih =>
    rw [← Nat.add_assoc, cnt_succ, ih, cnt_succ]
    omega
/-- counts of great numbers, by rounds -/
theorem cnt_rounds {P : Nat → Bool} {w : Nat} (hp : ∀ t, P (t + w) = P t) (r : Nat) : ∀ k, cnt P (w * k + r) = cnt P r + k * cnt P w
  | 0 => by rw [Nat.mul_zero, Nat.zero_add, Nat.zero_mul, Nat.add_zero]
  | k + 1 => by
    have ih := cnt_rounds hp r k
    rw [show w * (k + 1) + r = w + (w * k + r) by rw [Nat.mul_add]; omega, cnt_add]
    rw [cnt_congr (P := fun t => P (w + t)) (Q := P) fun t _ => by show P (w + t) = P t; rw [Nat.add_comm]; exact hp t]
    rw [ih, Nat.add_mul]
    omega
/-! ### lots: counted in and out -/
def lots (xs : List Bell) : List (List Bell) := xs.foldl (fun acc x => acc ++ acc.map fun l => l ++ [x]) [[]]
def sgn (l : List Bell) : Int := if l.length % 2 = 1 then 1 else -1
def ind (b : Bool) : Int := if b = true then 1 else 0
def S (t : Nat) (L : List (List Bell)) : Int := (L.map fun l => sgn l * ind (l.all (rg t))).sum
theorem lots_snoc (xs : List Bell) (x : Bell) : lots (xs ++ [x]) = lots xs ++ (lots xs).map fun l => l ++ [x] := by
  unfold lots
  rw [List.foldl_append]
  rfl
theorem S_snoc (t : Nat) (x : Bell) (L : List (List Bell)) : S t (L.map fun l => l ++ [x]) = - (ind (rg t x) * S t L) := by
  induction L with
  | nil => simp [S]
  | cons l L ih =>
    have e1 : S t ((l :: L).map fun l => l ++ [x]) = sgn (l ++ [x]) * ind ((l ++ [x]).all (rg t)) + S t (L.map fun l => l ++ [x]) := by
      unfold S
      rw [List.map_cons, List.map_cons, List.sum_cons]
    have e2 : S t (l :: L) = sgn l * ind (l.all (rg t)) + S t L := by
      unfold S
      rw [List.map_cons, List.sum_cons]
    have e3 : sgn (l ++ [x]) = - sgn l := by
      unfold sgn
      rw [List.length_append, List.length_singleton]
      by_cases h : l.length % 2 = 1
      · rw [if_pos h, if_neg (by omega)]
      · rw [if_neg h, if_pos (by omega)]; rfl
    have e4 : ind ((l ++ [x]).all (rg t)) = ind (l.all (rg t)) * ind (rg t x) := by
      rw [List.all_append]
      have : [x].all (rg t) = rg t x := by simp
      rw [this]
      cases l.all (rg t) <;> cases rg t x <;> rfl
    rw [e1, e2, e3, e4, ih, Int.mul_add, Int.neg_add]
    congr 1
    rw [Int.neg_mul, ← Int.mul_assoc, Int.mul_comm (ind (rg t x))]
theorem S_lots (t : Nat) : ∀ (n : Nat) (bs : List Bell), bs.length = n → S t (lots bs) = - ind (bs.all fun b => !rg t b)
  | 0, bs, h => by
    rw [List.eq_nil_of_length_eq_zero h]
    rfl
  | n + 1, bs, h => by
    rcases List.eq_nil_or_concat bs with e | ⟨ys, y, e⟩
    · rw [e] at h; cases h
    · rw [List.concat_eq_append] at e
      subst e
      rw [List.length_append] at h
      have ih := S_lots t n ys (Nat.succ.inj h)
      have e1 : ∀ A B : List (List Bell), S t (A ++ B) = S t A + S t B := fun A B => by
        unfold S
        rw [List.map_append, List.sum_append]
      rw [lots_snoc, e1, S_snoc, ih, List.all_append]
      have : ([y].all fun b => !rg t b) = !rg t y := by simp
      rw [this]
      cases ys.all (fun b => !rg t b) <;> cases rg t y <;> rfl
theorem lots_head : ∀ (n : Nat) (bs : List Bell), bs.length = n → ∃ r, lots bs = [] :: r
  | 0, bs, h => by
    rw [List.eq_nil_of_length_eq_zero h]
    exact ⟨[], rfl⟩
  | n + 1, bs, h => by
    rcases List.eq_nil_or_concat bs with e | ⟨ys, y, e⟩
    · rw [e] at h; cases h
    · rw [List.concat_eq_append] at e
      subst e
      rw [List.length_append] at h
      obtain ⟨r, hr⟩ := lots_head n ys (Nat.succ.inj h)
      rw [lots_snoc, hr]
      exact ⟨_, rfl⟩
theorem S_tail (t : Nat) (bs : List Bell) : S t (lots bs).tail = ind (bs.any (rg t)) := by
  obtain ⟨r, hr⟩ := lots_head bs.length bs rfl
  have h := S_lots t bs.length bs rfl
  rw [hr] at h ⊢
  have e : S t ([] :: r) = -1 + S t r := rfl
  rw [e] at h
  show S t r = _
  have e2 : (bs.all fun b => !rg t b) = !bs.any (rg t) := by
    rw [List.not_any_eq_all_not]
  rw [e2] at h
  revert h
  cases bs.any (rg t) with
  | true => intro h; have : ind (!true) = 0 := rfl; rw [this] at h; show S t r = 1; omega
  | false => intro h; have : ind (!false) = 1 := rfl; rw [this] at h; show S t r = 0; omega
/-- what the counts of all lots come to -/
theorem count_lots (bs : List Bell) (n : Nat) : ((lots bs).tail.map fun l => (cnt (fun t => l.all (rg t)) n : Int) * sgn l).sum = cnt (fun t => bs.any (rg t)) n := by
  induction n with
  | zero =>
    rw [cnt_zero]
    generalize (lots bs).tail = L
    induction L with
    | nil => rfl
    | cons l L ih =>
      rw [List.map_cons, List.sum_cons, ih, cnt_zero]
      simp
  | succ n ih =>
    have key : ∀ L : List (List Bell), (L.map fun l => (cnt (fun t => l.all (rg t)) (n + 1) : Int) * sgn l).sum = (L.map fun l => (cnt (fun t => l.all (rg t)) n : Int) * sgn l).sum + S n L := by
      intro L
      induction L with
      | nil => rfl
      | cons l L ihL =>
        have e2 : S n (l :: L) = sgn l * ind (l.all (rg n)) + S n L := by
          unfold S
          rw [List.map_cons, List.sum_cons]
        rw [List.map_cons, List.map_cons, List.sum_cons, List.sum_cons, ihL, e2, cnt_succ]
        have e3 : ((cnt (fun t => l.all (rg t)) n + (if l.all (rg n) = true then 1 else 0) : Nat) : Int) = (cnt (fun t => l.all (rg t)) n : Int) + ind (l.all (rg n)) := by
          unfold ind
          split <;> simp
        rw [e3, Int.add_mul, Int.mul_comm (ind _)]
        omega
    rw [key, ih, S_tail, cnt_succ]
    unfold ind
    split <;> simp
/-! ### bells that meet -/
def d60 : List Nat := [1, 2, 3, 4, 5, 6, 10, 12, 15, 20, 30, 60]
/-- the first of the minutes m, m + s, .. that another bell rings at -/
def hit (m s e f k : Nat) : Bool := (m + k * s) % e == f
def goodK (m s e f k : Nat) : Bool := hit m s e f k && (((List.range k).all fun j => !hit m s e f j) && (Nat.blt (m + k * s) (Nat.lcm s e) && (List.range 60).all fun t => (t % s == m && t % e == f) == (t % Nat.lcm s e == m + k * s)))
def chkK (s e : Nat) : Bool := (List.range s).all fun m => (List.range e).all fun f => !(m % Nat.gcd s e == f % Nat.gcd s e) || (List.range e).any fun k => goodK m s e f k
def e8 : List Nat := [1, 2, 3, 4, 5, 6, 10, 12]
theorem chk_all : (d60.all fun s => e8.all fun e => chkK s e) = true := by decide +kernel
theorem gl_all : (d60.all fun a => d60.all fun b => d60.all fun c => Nat.gcd (Nat.lcm a b) c == Nat.lcm (Nat.gcd a c) (Nat.gcd b c)) = true := by decide +kernel
theorem lcm_all : (d60.all fun a => d60.all fun b => decide (Nat.lcm a b ∈ d60)) = true := by decide +kernel
theorem dvd_all : (d60.all fun a => 60 % a == 0) = true := by decide +kernel
theorem d60_dvd {a : Nat} (h : a ∈ d60) : a ∣ 60 := by
  have := List.all_eq_true.mp dvd_all a h
  exact Nat.dvd_of_mod_eq_zero (beq_iff_eq.mp this)
theorem d60_lcm {a b : Nat} (ha : a ∈ d60) (hb : b ∈ d60) : Nat.lcm a b ∈ d60 := of_decide_eq_true (List.all_eq_true.mp (List.all_eq_true.mp lcm_all a ha) b hb)
theorem d60_gl {a b c : Nat} (ha : a ∈ d60) (hb : b ∈ d60) (hc : c ∈ d60) : Nat.gcd (Nat.lcm a b) c = Nat.lcm (Nat.gcd a c) (Nat.gcd b c) := beq_iff_eq.mp (List.all_eq_true.mp (List.all_eq_true.mp (List.all_eq_true.mp gl_all a ha) b hb) c hc)
theorem mod60 {a : Nat} (h : a ∈ d60) (t : Nat) : t % 60 % a = t % a := Nat.mod_mod_of_dvd t (d60_dvd h)
structure Ok (b : Bell) : Prop where
  e : b.1 ∈ e8
  lt : b.2 < b.1
theorem e8_d : ∀ e ∈ e8, e ∈ d60 := by decide
theorem Ok.d {b : Bell} (h : Ok b) : b.1 ∈ d60 := e8_d _ h.e
def cpt (b c : Bell) : Prop := b.2 % Nat.gcd b.1 c.1 = c.2 % Nat.gcd b.1 c.1
/-- the minutes at which some bells all ring: m, m + s, .. -/
structure Rd (bs : List Bell) (m s : Nat) : Prop where
  d : s ∈ d60
  lt : m < s
  inv : ∀ t, bs.all (rg t) = (t % s == m)
  goes : ∀ b, Ok b → (∀ c ∈ bs, cpt c b) → m % Nat.gcd s b.1 = b.2 % Nat.gcd s b.1
theorem rd_nil : Rd [] 0 1 := ⟨by decide, by decide, fun t => by rw [Nat.mod_one]; rfl, fun b _ _ => by rw [Nat.gcd_one_left, Nat.mod_one, Nat.mod_one]⟩
theorem mod_of_dvd_sub {x y a : Nat} (h : x % a = y % a) {g : Nat} (hg : g ∣ a) : x % g = y % g := by
  rw [← Nat.mod_mod_of_dvd x hg, h, Nat.mod_mod_of_dvd y hg]
theorem mod_lcm {x y a b : Nat} (h1 : x % a = y % a) (h2 : x % b = y % b) : x % Nat.lcm a b = y % Nat.lcm a b := by
  have aux : ∀ u v : Nat, v ≤ u → u % a = v % a → u % b = v % b → u % Nat.lcm a b = v % Nat.lcm a b := fun u v hv h1 h2 => by
    have k1 : a ∣ u - v := Nat.dvd_of_mod_eq_zero (Nat.sub_mod_eq_zero_of_mod_eq h1)
    have k2 : b ∣ u - v := Nat.dvd_of_mod_eq_zero (Nat.sub_mod_eq_zero_of_mod_eq h2)
    obtain ⟨k, hk⟩ := Nat.lcm_dvd k1 k2
    have : u = v + Nat.lcm a b * k := by omega
    rw [this, Nat.add_mul_mod_self_left]
  rcases Nat.le_total y x with h | h
  · exact aux x y h h1 h2
  · exact (aux y x h h1.symm h2.symm).symm
theorem lcm_dvd_r (a b : Nat) : b ∣ Nat.lcm a b := Nat.dvd_lcm_right a b
/-- one bell more: the first of m, m + s, .. at which it rings too -/
theorem rd_step {pre : List Bell} {m s : Nat} (R : Rd pre m s) {b : Bell} (hb : Ok b) (hc : ∀ c ∈ pre, cpt c b) :
    ∃ k, k < b.1 ∧ (∀ j, j < k → (m + j * s) % b.1 ≠ b.2) ∧ (m + k * s) % b.1 = b.2 ∧ Rd (pre ++ [b]) (m + k * s) (Nat.lcm s b.1) := by
  have h1 := List.all_eq_true.mp (List.all_eq_true.mp chk_all s R.d) b.1 hb.e
  unfold chkK at h1
  have h2 := List.all_eq_true.mp (List.all_eq_true.mp h1 m (List.mem_range.mpr R.lt)) b.2 (List.mem_range.mpr hb.lt)
  have h3 := R.goes b hb hc
  rw [h3, beq_self_eq_true, Bool.not_true, Bool.false_or, List.any_eq_true] at h2
  obtain ⟨k, hk, hg⟩ := h2
  unfold goodK at hg
  rw [Bool.and_eq_true, Bool.and_eq_true, Bool.and_eq_true] at hg
  obtain ⟨g1, g2, g3, g4⟩ := hg
  have e1 : (m + k * s) % b.1 = b.2 := beq_iff_eq.mp g1
  have lt := Nat.blt_eq.mp g3
  have dl := d60_lcm R.d hb.d
  refine ⟨k, List.mem_range.mp hk, fun j hj z => ?_, e1, dl, lt, fun t => ?_, fun c hok hall => ?_⟩
  · have := List.all_eq_true.mp g2 j (List.mem_range.mpr hj)
    unfold hit at this
    rw [beq_iff_eq.mpr z] at this
    cases this
  · rw [List.all_append, R.inv t]
    have h5 := beq_iff_eq.mp (List.all_eq_true.mp g4 (t % 60) (List.mem_range.mpr (Nat.mod_lt t (by decide))))
    rw [mod60 R.d, mod60 hb.d, mod60 dl] at h5
    have : [b].all (rg t) = (t % b.1 == b.2) := by simp [rg]
    rw [this]
    exact h5
  · have a1 := R.goes c hok fun d hd => hall d (List.mem_append_left _ hd)
    have a2 : b.2 % Nat.gcd b.1 c.1 = c.2 % Nat.gcd b.1 c.1 := hall b (List.mem_append_right _ List.mem_cons_self)
    rw [d60_gl R.d hb.d hok.d]
    refine mod_lcm ?_ ?_
    · refine Eq.trans ?_ a1
      have : (m + k * s) % s = m % s := Nat.add_mul_mod_self_right m k s
      exact mod_of_dvd_sub this (Nat.gcd_dvd_left s c.1)
    · refine Eq.trans ?_ a2
      have : (m + k * s) % b.1 = b.2 % b.1 := by rw [e1, Nat.mod_eq_of_lt hb.lt]
      exact mod_of_dvd_sub this (Nat.gcd_dvd_left b.1 c.1)
/-- two that never meet -/
theorem never {b c : Bell} (h : ¬ cpt b c) (t : Nat) : rg t b = false ∨ rg t c = false := by
  cases h1 : rg t b with
  | false => exact .inl rfl
  | true =>
    cases h2 : rg t c with
    | false => exact .inr rfl
    | true =>
      exfalso
      apply h
      have e1 : t % b.1 = b.2 := beq_iff_eq.mp h1
      have e2 : t % c.1 = c.2 := beq_iff_eq.mp h2
      unfold cpt
      rw [← e1, ← e2, Nat.mod_mod_of_dvd t (Nat.gcd_dvd_left b.1 c.1), Nat.mod_mod_of_dvd t (Nat.gcd_dvd_right b.1 c.1)]
end K42
namespace K42
open PySem PySem.Spec L2 VL PL
/-! ### basics -/
theorem is_int (d : Dt) : m_is_integer [d] = .ok (.bool (isI d)) := by cases d <;> rfl
theorem pwithin (d : Dt) (a b : Int) : m_is_within [d, .int a, .int b] = .ok (.bool (inR a b d)) := by
  refine ret1 ?_
  have h : qF m_is_integer (lcons (qv 0) lnil) [d, .int a, .int b] = .ok (.bool (isI d)) := is_int d
  cases d with
  | int i =>
    refine (qAnd_t h).trans ?_
    show ((((R.ofO (leD (.int a) (.int i))).bind fun k => (bB k).bind fun k => if k = true then _ else _)) : R Dt) = _
    rw [le_int]
    by_cases h1 : a ≤ i
    · rw [decide_eq_true h1]
      show (((R.ofO (leD (.int i) (.int b))).bind fun k => (bB k).bind fun k => R.ok (PyData.bool k)) : R Dt) = _
      rw [le_int]
      show R.ok (PyData.bool (decide (i ≤ b))) = .ok (.bool (decide (a ≤ i) && decide (i ≤ b)))
      rw [decide_eq_true h1, Bool.true_and]
    · rw [decide_eq_false h1]
      show R.ok (PyData.bool false) = .ok (.bool (decide (a ≤ i) && decide (i ≤ b)))
      rw [decide_eq_false h1, Bool.false_and]
  | none => exact qAnd_f h
  | bool _ => exact qAnd_f h
  | str _ => exact qAnd_f h
  | list _ => exact qAnd_f h
  | tuple _ => exact qAnd_f h
  | dict _ => exact qAnd_f h
theorem sized_tup (ds : List Dt) (a b : Int) : m_is_sized [.tuple ds, .int a, .int b] = .ok (.bool (decide (a ≤ ds.length) && decide ((ds.length : Int) ≤ b))) := by
  refine ret1 ?_
  refine (qAnd_t (show qIsi .tuple (qv 0) [.tuple ds, .int a, .int b] = .ok (.bool true) from rfl)).trans ?_
  show ((((R.ofO (leD (.int a) (.int ds.length))).bind fun k => (bB k).bind fun k => if k = true then _ else _)) : R Dt) = _
  rw [le_int]
  by_cases h1 : a ≤ ds.length
  · rw [decide_eq_true h1]
    show (((R.ofO (leD (.int ds.length) (.int b))).bind fun k => (bB k).bind fun k => R.ok (PyData.bool k)) : R Dt) = _
    rw [le_int]
    rfl
  · rw [decide_eq_false h1]
    rfl
theorem sized_no {d : Dt} (h : isT d = false) (a b : Dt) : m_is_sized [d, a, b] = .ok (.bool false) := by
  refine ret1 (qAnd_f ?_)
  cases d <;> first | rfl | cases h
def szT (n : Nat) : Dt → Bool
  | .tuple ds => decide (ds.length = n)
  | _ => false
theorem sized_eq (d : Dt) (n : Nat) : m_is_sized [d, .int n, .int n] = .ok (.bool (szT n d)) := by
  cases d with
  | tuple ds =>
    rw [sized_tup]
    show R.ok (PyData.bool _) = .ok (.bool (decide (ds.length = n)))
    by_cases h : ds.length = n
    · rw [decide_eq_true h, decide_eq_true (by omega), decide_eq_true (by omega)]; rfl
    · rw [decide_eq_false h]
      by_cases h2 : (n : Int) ≤ ds.length
      · rw [decide_eq_true h2, decide_eq_false (by omega)]; rfl
      · rw [decide_eq_false h2]; rfl
  | _ => exact sized_no rfl _ _
/-! ### lists, typed, with a filter -/
theorem fmR_tf {α : Type} {f : Dt → R (Option Dt)} (c : α → Dt) (p : α → Bool) (g : α → Dt) : ∀ xs : List α, (∀ x ∈ xs, f (c x) = .ok (if p x = true then some (g x) else none)) → fmR f (xs.map c) = .ok ((xs.filter p).map g)
  | [], _ => rfl
  | d :: ds, h => by
    have ih := fmR_tf (f := f) c p g ds fun d hd => h d (List.mem_cons_of_mem _ hd)
    have h0 := h d (List.mem_cons_self ..)
    rw [List.map_cons]
    unfold fmR
    rw [h0, List.filter_cons]
    by_cases hp : p d = true
    · rw [if_pos hp, if_pos hp]
      dsimp only
      rw [ih]
      rfl
    · rw [if_neg hp, if_neg hp]
      exact ih
theorem lc_tf {α : Type} {mi : En → R (List Dt)} {vs : List Nat} {st : Dt → En → Option En} {mt : En → R Bool} {me : En → R Dt} {e : En} {xs : List α} (c : α → Dt) (p : α → Bool) (g : α → Dt) (h : mi e = .ok (xs.map c)) (hs : ∀ x ∈ xs, ∃ e1, st (c x) (wipeE e vs) = some e1 ∧ mt e1 = .ok (p x) ∧ me e1 = .ok (g x)) : qLC mi vs st mt me e = .ok (.list ((xs.filter p).map g)) := by
  unfold qLC
  rw [h]
  show (fmR (lcItem st mt me (wipeE e vs)) (xs.map c)).bind _ = _
  rw [fmR_tf c p g xs fun d hd => ?_]
  · rfl
  · obtain ⟨e1, h1, h2, h3⟩ := hs d hd
    unfold lcItem
    rw [h1]
    dsimp only
    rw [h2]
    cases hp : p d with
    | true =>
      dsimp only
      rw [h3]
      rfl
    | false => rfl
theorem all_tf {α : Type} {mi : En → R (List Dt)} {vs : List Nat} {st : Dt → En → Option En} {me : En → R Dt} {e : En} {xs : List α} (c : α → Dt) (p : α → Bool) (h : mi e = .ok (xs.map c)) (hs : ∀ x ∈ xs, ∃ e1, st (c x) (wipeE e vs) = some e1 ∧ me e1 = .ok (.bool (p x))) : qC allD (lcons (qLC mi vs st bYes me) lnil) e = .ok (.bool (xs.all p)) := by
  refine qC1_ok (lc_typ c (g := fun x => PyData.bool (p x)) h hs) ?_
  rw [show (xs.map fun x => PyData.bool (p x)) = (xs.map p).map .bool by rw [List.map_map]; rfl, all_bools, List.all_map]
  rfl
/-! ### data -/
def nI (n : Nat) : Dt := .int (n : Int)
def nL (l : List Nat) : List Dt := l.map nI
def bD (b : Bell) : Dt := .tuple [nI b.1, nI b.2]
def bsD (bs : List Bell) : Dt := .tuple (bs.map bD)
def tD (l : List Nat) : Dt := .tuple (nL l)
theorem nL_len (l : List Nat) : (nL l).length = l.length := List.length_map ..
theorem lay_nL : ∀ l : List Nat, PyData.canLayAll0 (nL l) = true ∧ PyData.depthAll (nL l) = 0
  | l => by
    have := lay_ints (l.map fun (n : Nat) => (n : Int))
    rw [List.map_map] at this
    exact this
theorem eq_nat (a b : Nat) : eqD (nI a) (nI b) = some (.bool (decide (a = b))) := by
  show eqD (.int a) (.int b) = _
  rw [eqD_int]
  congr 2
  exact decide_eq_decide.mpr (by omega)
theorem eqv_nat (a b : Nat) : PyData.eqv (nI a) (nI b) = decide (a = b) := by
  show PyData.eqv (.int (a : Int)) (.int (b : Int)) = _
  have := eqD_int (a : Int) (b : Int)
  unfold eqD at this
  split at this
  · have := Option.some.inj this
    have := PyData.bool.inj this
    rw [this]
    exact decide_eq_decide.mpr (by omega)
  · cases this
theorem qM_ok {f : Dt → List Dt → Option Dt} {m : En → R Dt} {ml : En → R (List Dt)} {e : En} {ds xs : List Dt} {d : Dt} (h : m e = .ok (.list ds)) (hl : ml e = .ok xs) (hf : f (.list ds) xs = some d) : qM "list" f m ml e = .ok d := by
  unfold qM
  rw [h]
  show (if tyD "list" (.list ds) = true then (ml e).bind fun ds' => R.ofO (f (.list ds) ds') else .bad) = _
  rw [if_pos (by rfl), hl]
  show R.ofO (f (.list ds) xs) = _
  rw [hf]
  rfl
theorem eqOk_nats (v : Nat) (l : List Nat) : eqOk (nI v) (.list (nL l)) = true ∧ eqOk (nI v) (.tuple (nL l)) = true := in_row (r := nL l) (fun d hd => by
  obtain ⟨n, _, rfl⟩ := List.mem_map.mp hd
  exact .inr ⟨_, rfl⟩) v
theorem cnt_nats (v : Nat) (l : List Nat) : cntD (.list (nL l)) [nI v] = some (nI (l.count v)) := by
  refine (if_pos (eqOk_nats v l).1).trans ?_
  congr 2
  have : ((nL l).countP fun z => PyData.eqv z (nI v)) = l.count v := by
    unfold nL List.count
    rw [List.countP_map]
    refine List.countP_congr fun x _ => ?_
    show PyData.eqv (nI x) (nI v) = true ↔ (x == v) = true
    rw [eqv_nat]
    simp
  rw [this]
theorem ix_nL {l : List Nat} {i : Nat} (h : i < l.length) : ixD (.tuple (nL l)) (.int (i : Int)) = some (nI (l.getD i 0)) := by
  rw [item_at (by rw [nL_len]; exact h)]
  unfold nL
  rw [List.getD_eq_getElem?_getD, List.getElem?_map, List.getD_eq_getElem?_getD, List.getElem?_eq_getElem h]
  rfl
theorem seq_any {P : Dt} {l : List Dt} (hP : P = .list l ∨ P = .tuple l) {m : En → R Dt} {e : En} (h : m e = .ok P) : iSeq m e = .ok l := by
  unfold iSeq
  rw [h]
  rcases hP with rfl | rfl <;> rfl
theorem len_any {P : Dt} {l : List Dt} (hP : P = .list l ∨ P = .tuple l) : lenD [P] = some (.int l.length) := by
  rcases hP with rfl | rfl <;> rfl
theorem shp_tD {k : Nat} (l : List Nat) : Shp (k + 1) (tD l) := shp_tup fun d hd => by
  obtain ⟨n, _, rfl⟩ := List.mem_map.mp hd
  exact shp_int _
theorem eqv_tD (a b : List Nat) : PyData.eqv (tD a) (tD b) = decide (a = b) := by
  have h := eqv_ints (a.map fun (n : Nat) => (n : Int)) (b.map fun (n : Nat) => (n : Int))
  rw [List.map_map, List.map_map] at h
  have h' : PyData.eqvAll (nL a) (nL b) = decide ((a.map fun (n : Nat) => (n : Int)) = b.map fun (n : Nat) => (n : Int)) := h
  show PyData.eqvAll (nL a) (nL b) = _
  rw [h']
  refine decide_eq_decide.mpr ⟨fun z => ?_, fun z => by rw [z]⟩
  have := congrArg (List.map Int.toNat) z
  rw [List.map_map, List.map_map] at this
  have e : ∀ l : List Nat, l.map (Int.toNat ∘ fun (n : Nat) => (n : Int)) = l := fun l => by
    conv => rhs; rw [← List.map_id l]
    exact List.map_congr_left fun x _ => rfl
  rwa [e, e] at this
theorem eq_tD (a b : List Nat) : eqD (tD a) (tD b) = some (.bool (decide (a = b))) := by
  rw [← eqv_tD]
  exact eq_shp ((shp_tD (k := 0) a).mono (by decide)) ((shp_tD (k := 0) b).mono (by decide))
theorem win_nat {v lo hi : Nat} (h1 : lo ≤ v) (h2 : v ≤ hi) : m_is_within [nI v, .int (lo : Int), .int (hi : Int)] = .ok (.bool true) := by
  refine (pwithin (nI v) lo hi).trans ?_
  show VL.R.ok (PyData.bool (decide ((lo : Int) ≤ (v : Int)) && decide ((v : Int) ≤ (hi : Int)))) = _
  rw [decide_eq_true (by omega), decide_eq_true (by omega)]
  rfl
theorem all_yes {α : Type} (l : List α) : (l.all fun _ => true) = true := List.all_eq_true.mpr fun _ _ => rfl
theorem nI_add (i : Nat) : PyData.int (0 + (i : Int)) = nI i := by rw [Int.zero_add]; rfl
theorem range_nL (n : Nat) : rangeD 0 (n : Int) = nL (List.range n) := by
  rw [PL.range_map]
  exact List.map_congr_left fun i _ => nI_add i
theorem any_tf {α : Type} {mi : En → R (List Dt)} {vs : List Nat} {st : Dt → En → Option En} {me : En → R Dt} {e : En} {xs : List α} (c : α → Dt) (p : α → Bool) (h : mi e = .ok (xs.map c)) (hs : ∀ x ∈ xs, ∃ e1, st (c x) (wipeE e vs) = some e1 ∧ me e1 = .ok (.bool (p x))) : qC anyD (lcons (qLC mi vs st bYes me) lnil) e = .ok (.bool (xs.any p)) := by
  refine qC1_ok (lc_typ c (g := fun x => PyData.bool (p x)) h hs) ?_
  show (bools? (xs.map fun x => PyData.bool (p x))).map (fun ns => PyData.bool (ns.any id)) = _
  rw [show (xs.map fun x => PyData.bool (p x)) = (xs.map p).map .bool by rw [List.map_map]; rfl, bools_map]
  show some (PyData.bool ((xs.map p).any id)) = _
  rw [List.any_map]
  rfl
theorem rg_nL {n : Nat} (h : n ≤ 1000) : rg1 [nI n] = some (nL (List.range n)) := by
  rw [← range_nL]
  exact rg1_ok (by omega) (by omega)
/-! ### rings -/
structure Bs (bs : List Bell) : Prop where
  len : bs.length ≤ 4
  ok : ∀ b ∈ bs, Ok b
theorem e8_le : ∀ e ∈ e8, 1 ≤ e ∧ e ≤ 12 := by decide
theorem Ok.e1 {b : Bell} (h : Ok b) : 1 ≤ b.1 := (e8_le _ h.e).1
theorem Ok.e12 {b : Bell} (h : Ok b) : b.1 ≤ 12 := (e8_le _ h.e).2
def rings (t : Nat) (bs : List Bell) : List Nat := (List.range bs.length).filter fun i => rg t (bs.getD i (0, 0))
theorem mod_nat {a b : Nat} (h : 1 ≤ b) : modD (nI a) (nI b) = some (nI (a % b)) := by
  refine (mod_ok (i := (a : Int)) (j := (b : Int)) (by omega)).trans ?_
  rfl
theorem enum_bs (bs : List Bell) : enumL (bs.map bD) = (List.range bs.length).map fun i => PyData.tuple [nI i, bD (bs.getD i (0, 0))] := by
  rw [enum_map]
  refine List.map_congr_left fun i hi => ?_
  have hi := List.mem_range.mp hi
  rw [List.getD_eq_getElem?_getD, List.getElem?_map, List.getD_eq_getElem?_getD, List.getElem?_eq_getElem hi]
  rfl
theorem getD_mem {bs : List Bell} {i : Nat} (h : i < bs.length) : bs.getD i (0, 0) ∈ bs := by
  rw [List.getD_eq_getElem?_getD, List.getElem?_eq_getElem h]
  exact List.getElem_mem h
theorem rings_ok {bs : List Bell} (h : ∀ b ∈ bs, Ok b) (t : Nat) : m_raw_rings [bsD bs, nI t] = .ok (.list (nL (rings t bs))) := by
  refine ret1 ?_
  refine lc_tf (fun i => PyData.tuple [nI i, bD (bs.getD i (0, 0))]) (fun i => rg t (bs.getD i (0, 0))) nI (xs := List.range bs.length) ?_ fun i hi => ⟨_, rfl, ?_, rfl⟩
  · exact (iOf_ok (ds := [bsD bs]) (xs := enumL (bs.map bD)) rfl rfl).trans (by rw [enum_bs])
  · have ok := h _ (getD_mem (List.mem_range.mp hi))
    refine qT_ok (q2_ok (q2_ok rfl rfl (mod_nat ok.e1)) rfl ((eq_nat _ _).trans ?_))
    rfl
theorem sub_mod {t e f : Nat} (h : f < e) : (((t : Int) - (f : Int)) % (e : Int) = 0) ↔ t % e = f := by
  have h1 := Nat.div_add_mod t e
  have h2 := Nat.mod_lt t (show 0 < e by omega)
  constructor
  · intro z
    obtain ⟨k, hk⟩ := Int.dvd_of_emod_eq_zero z
    have e1 : (t : Int) = f + e * k := by omega
    have e2 : (t : Int) % e = f := by
      rw [e1, Int.add_mul_emod_self_left, Int.emod_eq_of_lt (by omega) (by omega)]
    have : ((t % e : Nat) : Int) = f := by rw [Int.natCast_emod]; exact e2
    omega
  · intro z
    refine Int.emod_eq_zero_of_dvd ⟨((t / e : Nat) : Int), ?_⟩
    have : ((e * (t / e) : Nat) : Int) = (e : Int) * ((t / e : Nat) : Int) := by rw [Int.natCast_mul]
    omega
theorem lrings_ok {bs : List Bell} (h : ∀ b ∈ bs, Ok b) (t : Nat) : m__law_rings [bsD bs, nI t] = .ok (tD (rings t bs)) := by
  refine ret1 (q1_ok (d := .list (nL (rings t bs))) ?_ rfl)
  refine lc_tf (fun i => PyData.tuple [nI i, bD (bs.getD i (0, 0))]) (fun i => rg t (bs.getD i (0, 0))) nI (xs := List.range bs.length) ?_ fun i hi => ⟨_, rfl, ?_, rfl⟩
  · exact (iOf_ok (ds := [bsD bs]) (xs := enumL (bs.map bD)) rfl rfl).trans (by rw [enum_bs])
  · have ok := h _ (getD_mem (List.mem_range.mp hi))
    generalize bs.getD i (0, 0) = b at ok
    have e1 := ok.e1
    refine qT_ok (q2_ok (q2_ok (x := .int ((t : Int) - (b.2 : Int))) (y := nI b.1) (qC1_ok (q2_ok rfl rfl (sub_int _ _)) rfl) rfl (mod_ok (by omega))) rfl ((eqD_int _ _).trans ?_))
    congr 2
    rw [Bool.eq_iff_iff, decide_eq_true_iff, sub_mod ok.lt]
    exact beq_iff_eq.symm
/-! ### what is asked of arguments -/
theorem bell_ok {b : Bell} (h : Ok b) : m_is_bell [bD b] = .ok (.bool true) := by
  have h1 := h.e1
  have h2 := h.e12
  have h3 := h.lt
  refine ret1 ((qAnd_t (qF3 (w := bD b) rfl rfl rfl (sized_tup [nI b.1, nI b.2] 2 2))).trans ((qAnd_t (qF3 (w := nI b.1) rfl rfl rfl (win_nat h1 (hi := 60) (by omega)))).trans (qF3 (w := nI b.2) rfl rfl (q2_ok (x := nI b.1) rfl rfl (z := .int ((b.1 - 1 : Nat) : Int)) ?_) (win_nat (lo := 0) (Nat.zero_le _) (by omega)))))
  show some (PyData.int ((b.1 : Int) - 1)) = _
  congr 2
  omega
theorem cb_ok {bs : List Bell} (h : Bs bs) (h1 : 1 ≤ bs.length) : m_check_bells [bsD bs] = .ok .none := by
  have h4 := h.len
  refine fin_nx (e' := [bsD bs, .none]) ?_
  unfold b_check_bells
  have c1 : qT (qF m_is_sized (lcons (qv 0) (lcons (qc (.int 1)) (lcons (qc (.int 6)) lnil)))) [bsD bs, .none] = .ok true := by
    refine qT3 rfl rfl rfl ((sized_tup (bs.map bD) 1 6).trans ?_)
    rw [List.length_map, decide_eq_true (by omega), decide_eq_true (by omega)]
    rfl
  have c2 : qC allD (lcons (qLC (iSeq (qv 0)) [1] (gN 1) bYes (qF m_is_bell (lcons (qv 1) lnil))) lnil) [bsD bs, .none] = .ok (.bool true) := by
    rw [← all_yes bs]
    exact all_tf bD (fun _ => true) (xs := bs) rfl fun b hb => ⟨_, rfl, qF1 rfl (bell_ok (h.ok b hb))⟩
  exact s_iffN ((bOr_f (bNot_ok c1)).trans (bNot_ok (b := true) (qT_ok c2))) rfl
def T18 : Nat := 1000000000000000000
theorem cm_ok {bs : List Bell} (h : Bs bs) (h1 : 1 ≤ bs.length) {t : Nat} (ht : t ≤ T18) : m_check_minute [bsD bs, nI t] = .ok .none := by
  refine fin_nx (e' := [bsD bs, nI t]) ?_
  unfold b_check_minute
  exact s_expr (qF1 rfl (cb_ok h h1)) (s_iffN (bNot_ok (b := true) (qT3 rfl rfl rfl (win_nat (lo := 0) (hi := T18) (Nat.zero_le _) ht))) rfl)
theorem rat_ok {bs : List Bell} (h : Bs bs) (h1 : 1 ≤ bs.length) {t : Nat} (ht : t ≤ T18) : m_rings_at [bsD bs, nI t] = .ok (tD (rings t bs)) := by
  refine fin_of (e' := [bsD bs, nI t]) ?_
  unfold b_rings_at
  exact s_expr (qF2 rfl rfl (cm_ok h h1 ht)) (s_ret (q1_ok (qF2 rfl rfl (rings_ok h.ok t)) rfl))
/-! ### rounds -/
theorem gcd_loop : ∀ (b a f : Nat), b < f → whileL (qT (q2 gtD (qv 1) (qc (.int 0)))) lb1_common_divisor f [nI a, nI b] = .nx [nI (Nat.gcd a b), nI 0] := by
  intro b
  induction b using Nat.strongRecOn with
  | _ b ih =>
    intro a f hf
    obtain ⟨f, rfl⟩ : ∃ g, f = g + 1 := ⟨f - 1, by omega⟩
    have c : qT (q2 gtD (qv 1) (qc (.int 0))) [nI a, nI b] = .ok (decide ((0 : Int) < (b : Int))) := qT_ok (q2_ok rfl rfl (gt_int _ _))
    by_cases h : b = 0
    · subst h
      rw [Nat.gcd_zero_right]
      exact while_f c
    · rw [decide_eq_true (by omega)] at c
      have hlt := Nat.mod_lt a (show 0 < b by omega)
      refine while_t (e1 := [nI b, nI (a % b)]) c ?_ ?_
      · unfold lb1_common_divisor
        exact s_par2 (d1 := nI b) (d2 := nI (a % b)) rfl (q2_ok rfl rfl (mod_nat (by omega))) rfl
      · have := ih (a % b) hlt b f (by omega)
        rw [show Nat.gcd a b = Nat.gcd b (a % b) by rw [Nat.gcd_comm a b, Nat.gcd_rec b a, Nat.gcd_comm]]
        exact this
theorem gcd_ok {a b : Nat} (h : b < 10000) : m_common_divisor [nI a, nI b] = .ok (nI (Nat.gcd a b)) := by
  refine fin_of (e' := [nI (Nat.gcd a b), nI 0]) ?_
  unfold b_common_divisor
  exact s_while (gcd_loop b a 10000 h) (s_ret rfl)
def lcmL (s : Nat) (bs : List Bell) : Nat := bs.foldl (fun s b => Nat.lcm s b.1) s
theorem d60_le {s : Nat} (h : s ∈ d60) : 1 ≤ s ∧ s ≤ 60 := by
  have : ∀ s ∈ d60, 1 ≤ s ∧ s ≤ 60 := by decide
  exact this s h
theorem lcm_step {e : En} {i j s : Nat} {b : Bell} (hs : s ∈ d60) (hb : Ok b) (h1 : e.getD i .none = nI s) (h2 : e.getD j .none = nI b.1) : q2 fdvD (q2 mulD (qv i) (qv j)) (qF m_common_divisor (lcons (qv i) (lcons (qv j) lnil))) e = .ok (nI (Nat.lcm s b.1)) := by
  have l1 := d60_le hs
  have b1 := hb.e1
  have b12 := hb.e12
  have g1 : 0 < Nat.gcd s b.1 := Nat.gcd_pos_of_pos_left _ (by omega)
  have g2 : Nat.gcd s b.1 ≤ b.1 := Nat.gcd_le_right _ (by omega)
  refine q2_ok (x := .int ((s : Int) * (b.1 : Int))) (q2_ok (congrArg VL.R.ok h1) (congrArg VL.R.ok h2) (mul_l (by omega))) (qF2 (congrArg VL.R.ok h1) (congrArg VL.R.ok h2) (gcd_ok (by omega))) ((fdv_ok (j := (Nat.gcd s b.1 : Nat)) ⟨by omega, by omega⟩).trans ?_)
  show some (PyData.int (((s * b.1 : Nat) : Int) / ((Nat.gcd s b.1 : Nat) : Int))) = _
  rfl
theorem round_loop (B : Dt) : ∀ (bs : List Bell) (s : Nat), s ∈ d60 → (∀ b ∈ bs, Ok b) → forL (gT2 2 3) lb1_raw_round (bs.map bD) [B, nI s, .none, .none] = .nx [B, nI (lcmL s bs), .none, .none] ∧ lcmL s bs ∈ d60
  | [], s, hs, _ => ⟨rfl, hs⟩
  | b :: bs, s, hs, h => by
    have hb := h b List.mem_cons_self
    obtain ⟨e, k⟩ := round_loop B bs (Nat.lcm s b.1) (d60_lcm hs hb.d) fun c hc => h c (List.mem_cons_of_mem _ hc)
    refine ⟨for_cons (e1 := [B, nI s, nI b.1, nI b.2]) rfl ?_ e, k⟩
    unfold lb1_raw_round
    exact s_set (lcm_step (e := [B, nI s, nI b.1, nI b.2]) hs hb rfl rfl) rfl
theorem round_ok {bs : List Bell} (h : ∀ b ∈ bs, Ok b) : m_raw_round [bsD bs] = .ok (nI (lcmL 1 bs)) ∧ lcmL 1 bs ∈ d60 := by
  obtain ⟨e, k⟩ := round_loop (bsD bs) bs 1 (by decide) h
  refine ⟨fin_of (e' := [bsD bs, nI (lcmL 1 bs), .none, .none]) ?_, k⟩
  unfold b_raw_round
  exact s_set (d := nI 1) rfl (s_for (ds := bs.map bD) rfl e (s_ret rfl))
/-! ### strangers -/
def nev (b c : Bell) : Bool := !decide (b.2 % Nat.gcd b.1 c.1 = c.2 % Nat.gcd b.1 c.1)
theorem nev_cpt {b c : Bell} : nev b c = false ↔ cpt b c := by
  unfold nev cpt
  rw [Bool.not_eq_false', decide_eq_true_iff]
theorem ix_bs {bs : List Bell} {i : Nat} (h : i < bs.length) : ixD (bsD bs) (.int (i : Int)) = some (bD (bs.getD i (0, 0))) := by
  unfold bsD
  rw [item_at (by rw [List.length_map]; exact h), List.getD_eq_getElem?_getD, List.getElem?_map, List.getD_eq_getElem?_getD, List.getElem?_eq_getElem h]
  rfl
theorem never_ok {bs : List Bell} (h : ∀ b ∈ bs, Ok b) {i j : Nat} (hi : i < bs.length) (hj : j < bs.length) : m_never_meet [bsD bs, nI i, nI j] = .ok (.bool (nev (bs.getD i (0, 0)) (bs.getD j (0, 0)))) := by
  have o1 := h _ (getD_mem hi)
  have o2 := h _ (getD_mem hj)
  have x1 := ix_bs hi
  have x2 := ix_bs hj
  generalize bs.getD i (0, 0) = b at o1 x1 ⊢
  generalize bs.getD j (0, 0) = c at o2 x2 ⊢
  have e12 := o2.e12
  have g1 : 0 < Nat.gcd b.1 c.1 := Nat.gcd_pos_of_pos_left _ o1.e1
  refine fin_of (e' := [bsD bs, nI i, nI j, nI (Nat.gcd b.1 c.1)]) ?_
  unfold b_never_meet
  refine s_set (qF2 (w := nI b.1) (x := nI c.1) (q2_ok (q2_ok rfl rfl x1) rfl rfl) (q2_ok (q2_ok rfl rfl x2) rfl rfl) (gcd_ok (by omega))) (s_ret ?_)
  refine q2_ok (q2_ok (q2_ok (x := nI b.2) (y := nI c.2) (q2_ok (q2_ok rfl rfl x1) rfl rfl) (q2_ok (q2_ok rfl rfl x2) rfl rfl) (sub_int _ _)) (y := nI (Nat.gcd b.1 c.1)) rfl (mod_ok (by omega))) rfl ((gt_int _ _).trans ?_)
  congr 2
  unfold nev
  rw [Bool.eq_iff_iff, decide_eq_true_iff, Bool.not_eq_true', decide_eq_false_iff_not]
  generalize Nat.gcd b.1 c.1 = g at g1
  have nn := Int.emod_nonneg ((b.2 : Int) - (c.2 : Int)) (show (g : Int) ≠ 0 by omega)
  have key : (((b.2 : Int) - (c.2 : Int)) % (g : Int) = 0) ↔ b.2 % g = c.2 % g := by
    rw [← Int.emod_eq_emod_iff_emod_sub_eq_zero]
    constructor
    · intro z
      have : ((b.2 % g : Nat) : Int) = ((c.2 % g : Nat) : Int) := by rw [Int.natCast_emod, Int.natCast_emod]; exact z
      omega
    · intro z
      rw [← Int.natCast_emod, ← Int.natCast_emod, z]
  rw [← key]
  omega
theorem fmL_tf {α : Type} {f : Dt → R (List Dt)} (c : α → Dt) (g : α → List Dt) : ∀ xs : List α, (∀ x ∈ xs, f (c x) = .ok (g x)) → fmL f (xs.map c) = .ok (xs.flatMap g)
  | [], _ => rfl
  | x :: xs, h => by
    have ih := fmL_tf (f := f) c g xs fun y hy => h y (List.mem_cons_of_mem _ hy)
    rw [List.map_cons]
    unfold fmL
    rw [h x List.mem_cons_self]
    dsimp only
    rw [ih]
    rfl
def strI (bs : List Bell) (i : Nat) : List Dt := ((List.range (bs.length - (i + 1))).filter fun k => nev (bs.getD i (0, 0)) (bs.getD (i + 1 + k) (0, 0))).map fun k => .tuple [nI i, nI (i + 1 + k)]
def stgs (bs : List Bell) : List Dt := (List.range bs.length).flatMap (strI bs)
theorem flat_le {α β : Type} (f : α → List β) (m : Nat) : ∀ l : List α, (∀ x ∈ l, (f x).length ≤ m) → (l.flatMap f).length ≤ l.length * m
  | [], _ => by simp
  | x :: l, h => by
    have := h x List.mem_cons_self
    have := flat_le f m l fun y hy => h y (List.mem_cons_of_mem _ hy)
    rw [List.flatMap_cons, List.length_append, List.length_cons, Nat.succ_mul]
    omega
theorem rg2_int {i j : Int} (h1 : 0 ≤ i) (h2 : i ≤ 1000) (h3 : 0 ≤ j) (h4 : j ≤ 1000) : rg2 [.int i, .int j] = some (rangeD i j) := if_pos ⟨by omega, by omega, by omega, by omega, by rw [sizeLine_eq]; omega⟩
theorem rg2_nat {a b : Nat} (ha : a ≤ 1000) (hb : b ≤ 1000) : rg2 [nI a, nI b] = some ((List.range (b - a)).map fun k => nI (a + k)) := by
  have e : rg2 [nI a, nI b] = some (rangeD (a : Int) (b : Int)) := rg2_int (by omega) (by omega) (by omega) (by omega)
  rw [e]
  unfold rangeD
  rw [show ((b : Int) - (a : Int)).toNat = b - a by omega]
  congr 1
theorem stgs_le {bs : List Bell} (h4 : bs.length ≤ 4) : (stgs bs).length ≤ 16 := by
  refine Nat.le_trans (flat_le (strI bs) 4 _ fun i _ => ?_) ?_
  · unfold strI
    rw [List.length_map]
    refine Nat.le_trans (List.length_filter_le ..) ?_
    rw [List.length_range]
    omega
  · rw [List.length_range]
    omega
theorem lc2_ok {mi mi1 : En → R (List Dt)} {vs vs1 : List Nat} {st st1 : Dt → En → Option En} {mt mt1 : En → R Bool} {me : En → R Dt} {e : En} {ds xs : List Dt} (h : mi e = .ok ds) (hf : fmL (in2 st mt mi1 vs1 st1 mt1 me (wipeE e vs)) ds = .ok xs) (hl : xs.length ≤ sizeLine) : qLC2 mi vs st mt mi1 vs1 st1 mt1 me e = .ok (.list xs) := by
  unfold qLC2
  rw [h]
  show (match fmL (in2 st mt mi1 vs1 st1 mt1 me (wipeE e vs)) ds with
    | .ok xs => if xs.length ≤ sizeLine then VL.R.ok (PyData.list xs) else .bad
    | _ => .bad) = _
  rw [hf]
  exact if_pos hl
theorem it_ok {bs : List Bell} {i : Nat} (h4 : bs.length ≤ 4) (hi : i < bs.length) : iOf rg2 (lcons (q2 addD (qv 2) (qc (.int 1))) (lcons (qv 1) lnil)) [bsD bs, nI bs.length, nI i, .none] = .ok ((List.range (bs.length - (i + 1))).map fun k => nI (i + 1 + k)) :=
    iOf_ok (ds := [nI (i + 1), nI bs.length]) (lcons_ok (q2_ok rfl rfl rfl) (lcons_ok rfl (lnil_ok _))) (rg2_nat (by omega) (by omega))
theorem item_ok {bs : List Bell} {n i k : Nat} {v : Bool} (nv : qT (qF m_never_meet (lcons (qv 0) (lcons (qv 2) (lcons (qv 3) lnil)))) [bsD bs, nI n, nI i, nI (i + 1 + k)] = .ok v) : lcItem (gN 3) (qT (qF m_never_meet (lcons (qv 0) (lcons (qv 2) (lcons (qv 3) lnil))))) (qtup (lcons (qv 2) (lcons (qv 3) lnil))) (wipeE [bsD bs, nI n, nI i, .none] [3]) (nI (i + 1 + k)) = .ok (if v = true then some (.tuple [nI i, nI (i + 1 + k)]) else none) := by
  have hst3 : gN 3 (nI (i + 1 + k)) (wipeE [bsD bs, nI n, nI i, .none] [3]) = some [bsD bs, nI n, nI i, nI (i + 1 + k)] := rfl
  unfold lcItem
  rw [hst3]
  dsimp only
  rw [nv]
  cases v <;> rfl
theorem in2_ok {st : Dt → En → Option En} {mi1 : En → R (List Dt)} {vs1 : List Nat} {st1 : Dt → En → Option En} {mt1 : En → R Bool} {me : En → R Dt} {e e1 : En} {d : Dt} {ds xs : List Dt} (h1 : st d e = some e1) (h2 : mi1 e1 = .ok ds) (h3 : fmR (lcItem st1 mt1 me (wipeE e1 vs1)) ds = .ok xs) : in2 st bYes mi1 vs1 st1 mt1 me e d = .ok xs := by
  unfold in2
  rw [h1]
  show (match mi1 e1 with
    | .ok ds1 => fmR (lcItem st1 mt1 me (wipeE e1 vs1)) ds1
    | _ => .bad) = _
  rw [h2]
  exact h3
theorem stg_row {bs : List Bell} (h : Bs bs) {i : Nat} (hi : i < bs.length) : in2 (gN 2) bYes (iOf rg2 (lcons (q2 addD (qv 2) (qc (.int 1))) (lcons (qv 1) lnil))) [3] (gN 3) (qT (qF m_never_meet (lcons (qv 0) (lcons (qv 2) (lcons (qv 3) lnil))))) (qtup (lcons (qv 2) (lcons (qv 3) lnil))) [bsD bs, nI bs.length, .none, .none] (nI i) = .ok (strI bs i) := by
  refine in2_ok (e1 := [bsD bs, nI bs.length, nI i, .none]) rfl (it_ok h.len hi) ?_
  refine fmR_tf (fun k => nI (i + 1 + k)) (fun k => nev (bs.getD i (0, 0)) (bs.getD (i + 1 + k) (0, 0))) (fun k => .tuple [nI i, nI (i + 1 + k)]) _ fun k hk => item_ok (qT3 rfl rfl rfl (never_ok h.ok hi ?_))
  have hk := List.mem_range.mp hk
  omega
theorem strangers_ok {bs : List Bell} (h : Bs bs) : m_strangers [bsD bs] = .ok (.list (stgs bs)) := by
  have h4 := h.len
  refine fin_of (e' := [bsD bs, nI bs.length, .none, .none]) ?_
  unfold b_strangers
  have hl : lenD [bsD bs] = some (nI bs.length) := by
    unfold bsD
    rw [len_tup, List.length_map]
    rfl
  refine s_set (qC1_ok rfl hl) (s_ret ?_)
  have hf := fmL_tf (f := in2 (gN 2) bYes (iOf rg2 (lcons (q2 addD (qv 2) (qc (.int 1))) (lcons (qv 1) lnil))) [3] (gN 3) (qT (qF m_never_meet (lcons (qv 0) (lcons (qv 2) (lcons (qv 3) lnil))))) (qtup (lcons (qv 2) (lcons (qv 3) lnil))) [bsD bs, nI bs.length, .none, .none]) nI (strI bs) (List.range bs.length) fun i hi => stg_row h (List.mem_range.mp hi)
  exact lc2_ok (iOf_ok (ds := [nI bs.length]) (xs := nL (List.range bs.length)) rfl (rg_nL (by omega))) hf (by have := stgs_le h4; rw [sizeLine_eq]; show (stgs bs).length ≤ _; omega)
theorem stgs_nil {bs : List Bell} : stgs bs = [] ↔ ∀ i j, i < j → j < bs.length → cpt (bs.getD i (0, 0)) (bs.getD j (0, 0)) := by
  unfold stgs
  rw [List.flatMap_eq_nil_iff]
  constructor
  · intro h i j hij hj
    have := h i (List.mem_range.mpr (by omega))
    unfold strI at this
    rw [List.map_eq_nil_iff, List.filter_eq_nil_iff] at this
    have := this (j - (i + 1)) (List.mem_range.mpr (by omega))
    rw [show i + 1 + (j - (i + 1)) = j by omega] at this
    exact nev_cpt.mp (by simpa using this)
  · intro h i hi
    have hi := List.mem_range.mp hi
    unfold strI
    rw [List.map_eq_nil_iff, List.filter_eq_nil_iff]
    intro k hk
    have hk := List.mem_range.mp hk
    have hn := nev_cpt.mpr (h i (i + 1 + k) (by omega) (by omega))
    intro z
    have z : nev (bs.getD i (0, 0)) (bs.getD (i + 1 + k) (0, 0)) = true := z
    rw [hn] at z
    cases z
/-! ### the first meeting -/
theorem meet_while (B E0 : Dt) {s e f : Nat} (he : 1 ≤ e) : ∀ (k m fu : Nat), (∀ j, j < k → (m + j * s) % e ≠ f) → (m + k * s) % e = f → k < fu →
    whileL (qT (q2 neD (q2 modD (qv 1) (qv 3)) (qv 4))) lb2_first_meeting fu [B, nI m, nI s, nI e, nI f] = .nx [B, nI (m + k * s), nI s, nI e, nI f]
  | 0, m, fu, _, h, hk => by
    obtain ⟨fu, rfl⟩ : ∃ g, fu = g + 1 := ⟨fu - 1, by omega⟩
    rw [Nat.zero_mul, Nat.add_zero] at h ⊢
    refine while_f (qT_ok (q2_ok (q2_ok rfl rfl (mod_nat he)) rfl ((neD_int _ _).trans ?_)))
    rw [h]
    show some (PyData.bool (!decide (((f : Nat) : Int) = f))) = _
    rw [decide_eq_true rfl]
    rfl
  | k + 1, m, fu, hj, h, hk => by
    obtain ⟨fu, rfl⟩ : ∃ g, fu = g + 1 := ⟨fu - 1, by omega⟩
    have h0 := hj 0 (by omega)
    rw [Nat.zero_mul, Nat.add_zero] at h0
    have ih := meet_while B E0 he k (m + s) fu (fun j hjk => by
      have := hj (j + 1) (by omega)
      rwa [Nat.succ_mul, Nat.add_comm (j * s) s, ← Nat.add_assoc] at this) (by rwa [Nat.succ_mul, Nat.add_comm (k * s) s, ← Nat.add_assoc] at h) (by omega)
    rw [show m + (k + 1) * s = m + s + k * s by rw [Nat.succ_mul]; omega]
    refine while_t (e1 := [B, nI (m + s), nI s, nI e, nI f]) (qT_ok (q2_ok (q2_ok rfl rfl (mod_nat he)) rfl ((neD_int _ _).trans ?_))) ?_ ih
    · rw [decide_eq_false (show ¬ (((m % e : Nat) : Int) = f) by omega)]
      rfl
    · unfold lb2_first_meeting
      refine s_augN (a := (m : Int)) (b := (s : Int)) rfl rfl ?_
      show RS.nx [B, .int ((m : Int) + (s : Int)), nI s, nI e, nI f] = _
      rfl
theorem pw_cpt {pre : List Bell} {b : Bell} {rest : List Bell} (h : (pre ++ b :: rest).Pairwise cpt) : ∀ c ∈ pre, cpt c b := fun c hc => (List.pairwise_append.mp h).2.2 c hc b List.mem_cons_self
theorem meet_loop (B : Dt) : ∀ (rest pre : List Bell) (m s : Nat), Rd pre m s → (∀ b ∈ rest, Ok b) → (pre ++ rest).Pairwise cpt → ∃ m' , forL (gT2 3 4) lb1_first_meeting (rest.map bD) [B, nI m, nI s, .none, .none] = .nx [B, nI m', nI (lcmL s rest), .none, .none] ∧ Rd (pre ++ rest) m' (lcmL s rest)
  | [], pre, m, s, R, _, _ => ⟨m, rfl, by rw [List.append_nil]; exact R⟩
  | b :: rest, pre, m, s, R, h, hp => by
    have hb := h b List.mem_cons_self
    obtain ⟨k, k1, k2, k3, R2⟩ := rd_step R hb (pw_cpt hp)
    have e12 := hb.e12
    have hp2 : (pre ++ [b] ++ rest).Pairwise cpt := by rw [List.append_assoc]; exact hp
    obtain ⟨m', e, R3⟩ := meet_loop B rest (pre ++ [b]) (m + k * s) (Nat.lcm s b.1) R2 (fun c hc => h c (List.mem_cons_of_mem _ hc)) hp2
    refine ⟨m', for_cons (e1 := [B, nI m, nI s, nI b.1, nI b.2]) rfl ?_ e, by rw [List.append_assoc] at R3; exact R3⟩
    unfold lb1_first_meeting
    exact s_while (meet_while B .none hb.e1 k m 10000 k2 k3 (by omega)) (s_set (lcm_step (e := [B, nI (m + k * s), nI s, nI b.1, nI b.2]) R.d hb rfl rfl) rfl)
theorem meeting_ok {bs : List Bell} (h : ∀ b ∈ bs, Ok b) (hp : bs.Pairwise cpt) : ∃ m, m_first_meeting [bsD bs] = .ok (nI m) ∧ Rd bs m (lcmL 1 bs) := by
  obtain ⟨m, e, R⟩ := meet_loop (bsD bs) bs [] 0 1 rd_nil h hp
  refine ⟨m, fin_of (e' := [bsD bs, nI m, nI (lcmL 1 bs), .none, .none]) ?_, R⟩
  unfold b_first_meeting
  exact s_asg (d := .tuple [nI 0, nI 1]) rfl rfl (s_for (ds := bs.map bD) rfl e (s_ret rfl))
theorem pw_of {bs : List Bell} (h : ∀ i j, i < j → j < bs.length → cpt (bs.getD i (0, 0)) (bs.getD j (0, 0))) : bs.Pairwise cpt := by
  rw [List.pairwise_iff_getElem]
  intro i j hi hj hij
  have := h i j hij hj
  rwa [List.getD_eq_getElem?_getD, List.getD_eq_getElem?_getD, List.getElem?_eq_getElem hi, List.getElem?_eq_getElem hj] at this
def allr (bs : List Bell) (t : Nat) : Bool := bs.all (rg t)
def anyr (bs : List Bell) (t : Nat) : Bool := bs.any (rg t)
theorem together_ok {bs : List Bell} (h : Bs bs) {n : Nat} : m_count_together [bsD bs, nI n] = .ok (nI (cnt (allr bs) n)) := by
  have c : qT (q2 gtD (qC lenD (lcons (qF m_strangers (lcons (qv 0) lnil)) lnil)) (qc (.int 0))) [bsD bs, nI n, .none, .none] = .ok (decide ((0 : Int) < ((stgs bs).length : Nat))) := qT_ok (q2_ok (qC1_ok (qF1 rfl (strangers_ok h)) (len_list _)) rfl (gt_int _ _))
  by_cases hs : stgs bs = []
  · rw [hs] at c
    obtain ⟨m, e1, R⟩ := meeting_ok h.ok (pw_of (stgs_nil.mp hs))
    obtain ⟨e2, d⟩ := round_ok h.ok
    have l1 := d60_le d
    refine fin_of (e' := [bsD bs, nI n, nI m, nI (lcmL 1 bs)]) ?_
    unfold b_count_together
    have c2 : qT (q2 geD (qv 2) (qv 1)) [bsD bs, nI n, nI m, nI (lcmL 1 bs)] = .ok (decide ((n : Int) ≤ (m : Int))) := qT_ok (q2_ok rfl rfl (ge_int _ _))
    have ev : cnt (allr bs) n = if m ≥ n then 0 else (n - 1 - m) / lcmL 1 bs + 1 := by
      rw [← cnt_mod R.lt n]
      exact cnt_congr fun t _ => R.inv t
    refine s_iffN c (s_par2 (qF1 rfl e1) (qF1 rfl e2) (s_ret ?_))
    by_cases hm : m ≥ n
    · rw [decide_eq_true (by omega)] at c2
      rw [ev, if_pos hm]
      exact qIf_t c2 rfl
    · rw [decide_eq_false (by omega)] at c2
      rw [ev, if_neg hm]
      refine qIf_f c2 (q2_ok (x := nI ((n - 1 - m) / lcmL 1 bs)) (q2_ok (x := nI (n - 1 - m)) (y := nI (lcmL 1 bs)) (q2_ok (q2_ok rfl rfl (sub_int _ _)) rfl ((sub_int _ _).trans ?_)) rfl ((fdv_ok ⟨by omega, by omega⟩).trans ?_)) rfl ?_)
      · show some (PyData.int ((n : Int) - 1 - (m : Int))) = some (.int ((n - 1 - m : Nat) : Int))
        rw [show ((n - 1 - m : Nat) : Int) = (n : Int) - 1 - (m : Int) by omega]
      · rfl
      · rfl
  · have hl : 0 < (stgs bs).length := List.length_pos_iff.mpr hs
    rw [decide_eq_true (by omega)] at c
    have z : cnt (allr bs) n = 0 := by
      refine cnt_none fun t _ => ?_
      cases q : allr bs t with
      | false => rfl
      | true =>
        exfalso
        apply hs
        rw [stgs_nil]
        intro i j hij hj
        have hall := List.all_eq_true.mp q
        refine Classical.byContradiction fun hn => ?_
        rcases never hn t with z | z
        · rw [hall _ (getD_mem (show i < bs.length by omega))] at z; cases z
        · rw [hall _ (getD_mem hj)] at z; cases z
    rw [z]
    refine fin_of (e' := [bsD bs, nI n, .none, .none]) ?_
    unfold b_count_together
    exact s_iftR c rfl
/-! ### all lots, counted -/
def big (bs : List Bell) : Prop := bs.length ≤ 4
theorem lots_of (bs0 : List Bell) : ∀ (n : Nat) (bs : List Bell), bs.length = n → (∀ b ∈ bs, b ∈ bs0) → (lots bs).length = 2 ^ n ∧ ∀ l ∈ lots bs, l.length ≤ n ∧ ∀ b ∈ l, b ∈ bs0
  | 0, bs, h, _ => by
    rw [List.eq_nil_of_length_eq_zero h]
    refine ⟨rfl, fun l hl => ?_⟩
    rw [List.mem_singleton.mp hl]
    exact ⟨Nat.le_refl _, fun b hb => by cases hb⟩
  | n + 1, bs, h, hm => by
    rcases List.eq_nil_or_concat bs with e | ⟨ys, y, e⟩
    · rw [e] at h; cases h
    · rw [List.concat_eq_append] at e
      subst e
      rw [List.length_append] at h
      obtain ⟨i1, i2⟩ := lots_of bs0 n ys (Nat.succ.inj h) fun b hb => hm b (List.mem_append_left _ hb)
      rw [lots_snoc]
      refine ⟨by rw [List.length_append, List.length_map, i1, Nat.pow_succ]; omega, fun l hl => ?_⟩
      rcases List.mem_append.mp hl with hl | hl
      · obtain ⟨a, b⟩ := i2 l hl
        exact ⟨by omega, b⟩
      · obtain ⟨l', hl', rfl⟩ := List.mem_map.mp hl
        obtain ⟨a, b⟩ := i2 l' hl'
        refine ⟨by rw [List.length_append]; show l'.length + 1 ≤ n + 1; omega, fun c hc => ?_⟩
        rcases List.mem_append.mp hc with hc | hc
        · exact b c hc
        · rw [List.mem_singleton.mp hc]
          exact hm y (List.mem_append_right _ List.mem_cons_self)
theorem blots_ok {bs : List Bell} (h4 : bs.length ≤ 4) : m_bell_lots [bsD bs] = .ok (.list ((lots bs).tail.map bsD)) := by
  have loop := for_foldN (st := gN 2) (body := lb1_bell_lots) (D := bD) (F := fun acc => [bsD bs, .list (acc.map bsD), .none, .none]) (g := fun acc x => acc ++ acc.map fun l => l ++ [x]) (I := fun k (s : List (List Bell)) => s.length ≤ 2 ^ k ∧ ∀ l ∈ s, l.length ≤ k) (N := 4) bs [[]] 0 (by omega) ⟨by decide, fun l hl => by
      rw [List.mem_singleton.mp hl]
      exact Nat.le_refl _⟩ fun x hx s k hk ⟨i1, i2⟩ => by
    have p5 : (2 : Nat) ^ k ≤ 2 ^ 4 := Nat.pow_le_pow_right (by decide) (by omega)
    refine ⟨⟨?_, ?_⟩, [bsD bs, .list (s.map bsD), bD x, .none], rfl, ?_⟩
    · rw [List.length_append, List.length_map, Nat.pow_succ]
      omega
    · intro l hl
      rcases List.mem_append.mp hl with hl | hl
      · have := i2 l hl
        omega
      · obtain ⟨l', hl', rfl⟩ := List.mem_map.mp hl
        have := i2 l' hl'
        rw [List.length_append]
        show l'.length + 1 ≤ k + 1
        omega
    · unfold lb1_bell_lots
      have h1 : qLC (iSeq (qv 1)) [3] (gN 3) bYes (q2 addD (qv 3) (qtup (lcons (qv 2) lnil))) [bsD bs, .list (s.map bsD), bD x, .none] = .ok (.list ((s.map fun l => l ++ [x]).map bsD)) := by
        rw [List.map_map]
        refine lc_typ bsD (xs := s) rfl fun l hl => ⟨_, rfl, q2_ok (x := bsD l) (y := .tuple [bD x]) rfl rfl ?_⟩
        have := i2 l hl
        refine (cat_tup (l.map bD) [bD x] (by rw [List.length_map]; show _ + 1 ≤ 1000; omega)).trans ?_
        show some (PyData.tuple (l.map bD ++ [bD x])) = some (.tuple ((l ++ [x]).map bD))
        rw [List.map_append]
        rfl
      refine s_set (d := .list ((s ++ s.map fun l => l ++ [x]).map bsD)) (q2_ok (x := .list (s.map bsD)) rfl h1 ?_) rfl
      rw [List.map_append]
      exact cat_list _ _ (by rw [List.length_map, List.length_map, List.length_map]; omega)
  refine fin_of (e' := [bsD bs, .list ((lots bs).map bsD), .none, .none]) ?_
  unfold b_bell_lots
  refine s_set (d := .list [.tuple []]) rfl (s_for (ds := bs.map bD) rfl loop.1 (s_ret ?_))
  obtain ⟨r, hr⟩ := lots_head bs.length bs rfl
  show qSl slL (qv 1) (oS (qc (.int 1))) oN [bsD bs, .list ((lots bs).map bsD), .none, .none] = _
  rw [hr]
  have e : cutL (([] :: r).map bsD) (some 1) none = r.map bsD := cut_from (d := 1) (([] :: r).map bsD) (by rw [List.length_map, List.length_cons]; omega)
  show VL.R.ok (PyData.list (cutL (([] :: r).map bsD) (some 1) none)) = _
  rw [e]
  rfl
/-! ### counts, by the program -/
theorem fold_sum {α : Type} (f : α → Int) : ∀ (l : List α) (s : Int), l.foldl (fun s x => s + f x) s = s + (l.map f).sum
  | [], s => by simp
  | x :: l, s => by
    rw [List.foldl_cons, fold_sum f l, List.map_cons, List.sum_cons]
    omega
theorem tail_mem {α : Type} {l : List α} {x : α} (h : x ∈ l.tail) : x ∈ l := by
  cases l with
  | nil => cases h
  | cons y l => exact List.mem_cons_of_mem _ h
theorem rawc_ok {bs : List Bell} (h : Bs bs) (n : Nat) : m_raw_count [bsD bs, nI n] = .ok (nI (cnt (anyr bs) n)) := by
  have h4 := h.len
  have lp := for_fold (st := gN 3) (body := lb1_raw_count) (D := bsD) (F := fun s : Int => [bsD bs, nI n, .int s, .none]) (g := fun s l => s + (cnt (fun t => l.all (rg t)) n : Int) * sgn l) (I := fun _ => True) (lots bs).tail 0 trivial fun l hl s _ => ⟨trivial, [bsD bs, nI n, .int s, bsD l], rfl, by
    obtain ⟨i1, i2⟩ := (lots_of bs bs.length bs rfl fun b hb => hb).2 l (tail_mem hl)
    have hb : Bs l := ⟨by omega, fun b hb => h.ok b (i2 b hb)⟩
    unfold lb1_raw_count
    have c : qT (q2 eqD (q2 modD (qC lenD (lcons (qv 3) lnil)) (qc (.int 2))) (qc (.int 1))) [bsD bs, nI n, .int s, bsD l] = .ok (decide (l.length % 2 = 1)) := by
      refine qT_ok (q2_ok (q2_ok (x := nI l.length) (y := nI 2) (qC1_ok (x := bsD l) rfl ?_) rfl (mod_nat (by decide))) (y := nI 1) rfl (eq_nat _ _))
      unfold bsD
      rw [len_tup, List.length_map]
      rfl
    have q : qIf (qT (q2 eqD (q2 modD (qC lenD (lcons (qv 3) lnil)) (qc (.int 2))) (qc (.int 1)))) (qc (.int 1)) (q1 negD (qc (.int 1))) [bsD bs, nI n, .int s, bsD l] = .ok (.int (sgn l)) := by
      unfold sgn
      by_cases hq : l.length % 2 = 1
      · rw [decide_eq_true hq] at c
        rw [if_pos hq]
        exact qIf_t c rfl
      · rw [decide_eq_false hq] at c
        rw [if_neg hq]
        exact qIf_f c rfl
    refine s_augN (a := s) (b := (cnt (fun t => l.all (rg t)) n : Int) * sgn l) rfl (q2_ok (qF2 rfl rfl (together_ok hb)) q (mul_r ?_)) rfl
    unfold sgn
    split <;> decide⟩
  refine fin_of (e' := [bsD bs, nI n, nI (cnt (anyr bs) n), .none]) ?_
  unfold b_raw_count
  refine s_set (d := .int 0) rfl (s_for (ds := (lots bs).tail.map bsD) (e1 := [bsD bs, nI n, nI (cnt (anyr bs) n), .none]) (seq_any (.inl rfl) (qF1 rfl (blots_ok h4))) (lp.trans ?_) (s_ret rfl))
  rw [fold_sum, count_lots, Int.zero_add]
  rfl
theorem tc_ok {bs : List Bell} (h : Bs bs) (h1 : 1 ≤ bs.length) {n : Nat} (hn : n ≤ T18) : m_together_count [bsD bs, nI n] = .ok (nI (cnt (allr bs) n)) := by
  refine fin_of (e' := [bsD bs, nI n]) ?_
  unfold b_together_count
  exact s_expr (qF2 rfl rfl (cm_ok h h1 hn)) (s_ret (qF2 rfl rfl (together_ok h)))
theorem rc_ok {bs : List Bell} (h : Bs bs) (h1 : 1 ≤ bs.length) {n : Nat} (hn : n ≤ T18) : m_ring_count [bsD bs, nI n] = .ok (nI (cnt (anyr bs) n)) := by
  refine fin_of (e' := [bsD bs, nI n]) ?_
  unfold b_ring_count
  exact s_expr (qF2 rfl rfl (cm_ok h h1 hn)) (s_ret (qF2 rfl rfl (rawc_ok h n)))
theorem rob_ok {bs : List Bell} (h : Bs bs) (h1 : 1 ≤ bs.length) : m_round_of_bells [bsD bs] = .ok (nI (lcmL 1 bs)) := by
  refine fin_of (e' := [bsD bs]) ?_
  unfold b_round_of_bells
  exact s_expr (qF1 rfl (cb_ok h h1)) (s_ret (qF1 rfl (round_ok h.ok).1))
def oth (bs : List Bell) (i : Nat) : List Bell := bs.take i ++ bs.drop (i + 1)
def alone (bs : List Bell) (i t : Nat) : Bool := rg t (bs.getD i (0, 0)) && !anyr (oth bs i) t
theorem any_oth {bs : List Bell} {i : Nat} (h : i < bs.length) (t : Nat) : anyr bs t = (rg t (bs.getD i (0, 0)) || anyr (oth bs i) t) := by
  have e : bs = bs.take i ++ bs[i] :: bs.drop (i + 1) := by rw [← List.drop_eq_getElem_cons h, List.take_append_drop]
  have g : bs.getD i (0, 0) = bs[i] := by rw [List.getD_eq_getElem?_getD, List.getElem?_eq_getElem h]; rfl
  rw [g]
  unfold anyr oth
  conv => lhs; rw [e]
  rw [List.any_append, List.any_cons, List.any_append]
  cases rg t bs[i] <;> simp
theorem cnt_alone {bs : List Bell} {i : Nat} (h : i < bs.length) (n : Nat) : cnt (anyr bs) n = cnt (anyr (oth bs i)) n + cnt (alone bs i) n := by
  induction n with
  | zero => rfl
  | succ n ih =>
    rw [cnt_succ, cnt_succ, cnt_succ, ih, any_oth h]
    unfold alone
    cases rg n (bs.getD i (0, 0)) <;> cases anyr (oth bs i) n <;> simp <;> omega
theorem oth_bs {bs : List Bell} (h : Bs bs) (i : Nat) : Bs (oth bs i) := ⟨by
  have := h.len
  unfold oth
  rw [List.length_append, List.length_take, List.length_drop]
  omega, fun b hb => by
  rcases List.mem_append.mp hb with hb | hb
  · exact h.ok b (List.mem_of_mem_take hb)
  · exact h.ok b (List.mem_of_mem_drop hb)⟩
theorem len_bs (bs : List Bell) : lenD [bsD bs] = some (nI bs.length) := by
  unfold bsD
  rw [len_tup, List.length_map]
  rfl
theorem ac_ok {bs : List Bell} (h : Bs bs) {i : Nat} (hi : i < bs.length) {n : Nat} (hn : n ≤ T18) : m_alone_count [bsD bs, nI i, nI n] = .ok (nI (cnt (alone bs i) n)) := by
  have h4 := h.len
  have eo : q2 addD (qSl slT (qv 0) oN (oS (qv 1))) (qSl slT (qv 0) (oS (q2 addD (qv 1) (qc (.int 1)))) oN) [bsD bs, nI i, nI n, .none] = .ok (bsD (oth bs i)) := by
    refine q2_ok (x := .tuple ((bs.map bD).take i)) (y := .tuple ((bs.map bD).drop (i + 1))) (sl_ok (d := bsD bs) (hi := some (i : Int)) rfl rfl rfl ?_) (sl_ok (d := bsD bs) (lo := some ((i + 1 : Nat) : Int)) rfl rfl rfl ?_) ((cat_tup _ _ ?_).trans ?_)
    · show some (PyData.tuple (cutL (bs.map bD) none (some (i : Int)))) = _
      rw [cut_to _ (by rw [List.length_map]; omega)]
    · show some (PyData.tuple (cutL (bs.map bD) (some ((i + 1 : Nat) : Int)) none)) = _
      rw [cut_from _ (by rw [List.length_map]; omega)]
    · rw [List.length_take, List.length_drop, List.length_map]
      omega
    · unfold bsD oth
      rw [List.map_append, List.map_take, List.map_drop]
  refine fin_of (e' := [bsD bs, nI i, nI n, bsD (oth bs i)]) ?_
  unfold b_alone_count
  refine s_expr (qF1 rfl (cb_ok h (by omega))) (s_iffN (bNot_ok (b := true) (qT3 rfl rfl (q2_ok (qC1_ok rfl (len_bs bs)) rfl (z := .int ((bs.length - 1 : Nat) : Int)) ?_) (win_nat (lo := 0) (Nat.zero_le _) (by omega)))) (s_expr (qF2 rfl rfl (cm_ok h (by omega) hn)) (s_set eo (s_ret (q2_ok (qF2 rfl rfl (rawc_ok h n)) (qF2 rfl rfl (rawc_ok (oth_bs h i) n)) ?_)))))
  · show some (PyData.int ((bs.length : Int) - 1)) = _
    congr 2
    omega
  · show some (PyData.int ((cnt (anyr bs) n : Nat) - (cnt (anyr (oth bs i)) n : Nat) : Int)) = some (.int ((cnt (alone bs i) n : Nat) : Int))
    have := cnt_alone hi n
    rw [show ((cnt (anyr bs) n : Nat) - (cnt (anyr (oth bs i)) n : Nat) : Int) = ((cnt (alone bs i) n : Nat) : Int) by omega]
/-! ### counts, by the law -/
def cts (bs : List Bell) (n : Nat) : List Nat := cnt (allr bs) n :: cnt (anyr bs) n :: (List.range bs.length).map fun i => cnt (alone bs i) n
theorem told_ok {bs : List Bell} (h : Bs bs) (h1 : 1 ≤ bs.length) {n : Nat} (hn : n ≤ T18) : m__law_told [bsD bs, nI n] = .ok (.list (nL (cts bs n))) := by
  have h4 := h.len
  refine fin_of (e' := [bsD bs, nI n, .list [nI (cnt (allr bs) n), nI (cnt (anyr bs) n)], .none]) ?_
  unfold b__law_told
  refine s_set (qlst_ok (lcons_ok (qF2 rfl rfl (tc_ok h h1 hn)) (lcons_ok (qF2 rfl rfl (rc_ok h h1 hn)) (lnil_ok _)))) (s_ret ?_)
  have e : qLC (iOf rg1 (lcons (qC lenD (lcons (qv 0) lnil)) lnil)) [3] (gN 3) bYes (qF m_alone_count (lcons (qv 0) (lcons (qv 3) (lcons (qv 1) lnil)))) [bsD bs, nI n, .list [nI (cnt (allr bs) n), nI (cnt (anyr bs) n)], .none] = .ok (.list ((List.range bs.length).map fun i => nI (cnt (alone bs i) n))) :=
    lc_range (fun i => nI (cnt (alone bs i) n)) (by omega) (lcons_ok (qC1_ok rfl (len_bs bs)) (lnil_ok _)) fun i hi => qF3 rfl rfl rfl (ac_ok h hi hn)
  refine q2_ok (x := .list [nI (cnt (allr bs) n), nI (cnt (anyr bs) n)]) rfl e ((cat_list _ _ (by rw [List.length_map, List.length_range]; show 2 + _ ≤ 1000; omega)).trans ?_)
  unfold cts nL
  rw [List.map_cons, List.map_cons, List.map_map]
  rfl
theorem rings_all {bs : List Bell} (t : Nat) : decide ((rings t bs).length = bs.length) = allr bs t := by
  unfold rings allr
  rw [Bool.eq_iff_iff, decide_eq_true_iff, List.all_eq_true]
  constructor
  · intro h b hb
    have h2 : ((List.range bs.length).filter fun i => rg t (bs.getD i (0, 0))).length = (List.range bs.length).length := by rw [h, List.length_range]
    have h3 := List.length_filter_eq_length_iff.mp h2
    obtain ⟨i, hi, rfl⟩ := List.getElem_of_mem hb
    have := h3 i (List.mem_range.mpr hi)
    rwa [List.getD_eq_getElem?_getD, List.getElem?_eq_getElem hi] at this
  · intro h
    have : ((List.range bs.length).filter fun i => rg t (bs.getD i (0, 0))).length = (List.range bs.length).length := List.length_filter_eq_length_iff.mpr fun i hi => h _ (getD_mem (List.mem_range.mp hi))
    rw [this, List.length_range]
theorem rings_any {bs : List Bell} (t : Nat) : decide (rings t bs ≠ []) = anyr bs t := by
  unfold rings anyr
  rw [Bool.eq_iff_iff, decide_eq_true_iff, List.any_eq_true, ne_eq, List.filter_eq_nil_iff]
  constructor
  · intro h
    refine Classical.byContradiction fun hn => h fun i hi z => hn ⟨_, getD_mem (List.mem_range.mp hi), z⟩
  · rintro ⟨b, hb, hr⟩ h
    obtain ⟨i, hi, rfl⟩ := List.getElem_of_mem hb
    have := h i (List.mem_range.mpr hi)
    rw [List.getD_eq_getElem?_getD, List.getElem?_eq_getElem hi] at this
    exact this hr
theorem oth_mem {bs : List Bell} {i : Nat} (t : Nat) : anyr (oth bs i) t = true ↔ ∃ j, j < bs.length ∧ j ≠ i ∧ rg t (bs.getD j (0, 0)) = true := by
  unfold anyr oth
  rw [List.any_eq_true]
  constructor
  · rintro ⟨b, hb, hr⟩
    rcases List.mem_append.mp hb with hb | hb
    · obtain ⟨j, hj, rfl⟩ := List.getElem_of_mem hb
      rw [List.length_take] at hj
      refine ⟨j, by omega, by omega, ?_⟩
      rw [List.getElem_take] at hr
      rwa [List.getD_eq_getElem?_getD, List.getElem?_eq_getElem (by omega)]
    · obtain ⟨j, hj, rfl⟩ := List.getElem_of_mem hb
      rw [List.length_drop] at hj
      refine ⟨i + 1 + j, by omega, by omega, ?_⟩
      rw [List.getElem_drop] at hr
      rwa [List.getD_eq_getElem?_getD, List.getElem?_eq_getElem (by omega)]
  · rintro ⟨j, hj, hne, hr⟩
    rw [List.getD_eq_getElem?_getD, List.getElem?_eq_getElem hj] at hr
    refine ⟨bs[j], ?_, hr⟩
    by_cases hlt : j < i
    · exact List.mem_append_left _ (List.mem_take_iff_getElem.mpr ⟨j, by omega, rfl⟩)
    · exact List.mem_append_right _ (List.mem_drop_iff_getElem.mpr ⟨j - (i + 1), by omega, by congr 1; omega⟩)
theorem rings_alone {bs : List Bell} {i : Nat} (h : i < bs.length) (t : Nat) : decide (rings t bs = [i]) = alone bs i t := by
  rw [Bool.eq_iff_iff, decide_eq_true_iff]
  unfold alone
  rw [Bool.and_eq_true, Bool.not_eq_true', Bool.eq_false_iff, ne_eq, oth_mem]
  have mem : ∀ j, j ∈ rings t bs ↔ j < bs.length ∧ rg t (bs.getD j (0, 0)) = true := fun j => by
    unfold rings
    rw [List.mem_filter, List.mem_range]
  have nd : (rings t bs).Nodup := List.nodup_range.filter _
  constructor
  · intro e
    have hi := (mem i).mp (by rw [e]; exact List.mem_cons_self)
    refine ⟨hi.2, fun ⟨j, hj, hne, hr⟩ => ?_⟩
    have := (mem j).mpr ⟨hj, hr⟩
    rw [e] at this
    exact hne (List.mem_singleton.mp this)
  · rintro ⟨hr, hn⟩
    have hm : ∀ j ∈ rings t bs, j = i := fun j hj => Classical.byContradiction fun hne => hn ⟨j, ((mem j).mp hj).1, hne, ((mem j).mp hj).2⟩
    have hi := (mem i).mpr ⟨h, hr⟩
    revert hm hi nd
    cases rings t bs with
    | nil => intro _ _ hi; cases hi
    | cons a l =>
      intro nd hm hi
      have ha := hm a List.mem_cons_self
      cases l with
      | nil => rw [ha]
      | cons b l =>
        have hb := hm b (List.mem_cons_of_mem _ List.mem_cons_self)
        exact ((List.nodup_cons.mp nd).1 (by rw [ha, ← hb]; exact List.mem_cons_self)).elim
/-! ### counts, row by row (the law) -/
theorem len_tD (l : List Nat) : lenD [tD l] = some (nI l.length) := by
  unfold tD
  rw [len_tup, nL_len]
  rfl
theorem ne_tD (a b : List Nat) : neD (tD a) (tD b) = some (.bool (decide (a ≠ b))) := by
  rw [ne_shp ((shp_tD (k := 0) a).mono (by decide)) ((shp_tD (k := 0) b).mono (by decide)), eqv_tD]
  by_cases h : a = b
  · rw [decide_eq_true h, decide_eq_false (fun z => z h)]
    rfl
  · rw [decide_eq_false h, decide_eq_true h]
    rfl
def rowsD (bs : List Bell) (n : Nat) : Dt := .list ((List.range n).map fun t => tD (rings t bs))
theorem len_fil {mt : En → R Bool} {bs : List Bell} {n : Nat} {x3 x4 x5 x6 : Dt} (p : Nat → Bool) (hs : ∀ t, t < n → mt [bsD bs, nI n, rowsD bs n, x3, x4, tD (rings t bs), x6] = .ok (p t)) : qC lenD (lcons (qLC (iSeq (qv 2)) [5] (gN 5) mt (qc (.int 1))) lnil) [bsD bs, nI n, rowsD bs n, x3, x4, x5, x6] = .ok (nI (cnt p n)) := by
  refine qC1_ok (x := .list (((List.range n).filter p).map fun _ => .int 1)) (lc_tf (fun t => tD (rings t bs)) p (fun _ => .int 1) (xs := List.range n) (seq_any (.inl rfl) rfl) fun t ht => ⟨_, rfl, hs t (List.mem_range.mp ht), rfl⟩) ?_
  rw [len_list, List.length_map, ← List.countP_eq_length_filter]
  rfl
theorem counts_ok {bs : List Bell} (h : Bs bs) {n : Nat} (hn : n ≤ 1000) : m__law_counts [bsD bs, nI n] = .ok (.list (nL (cts bs n))) := by
  have h4 := h.len
  refine fin_of (e' := [bsD bs, nI n, rowsD bs n, .none, .list ((List.range bs.length).map fun i => nI (cnt (alone bs i) n)), .none, .none]) ?_
  unfold b__law_counts
  refine s_set (d := rowsD bs n) (lc_range (fun t => tD (rings t bs)) (by omega) rfl fun t _ => qF2 rfl rfl (lrings_ok h.ok t)) ?_
  refine s_set (d := .list ((List.range bs.length).map fun i => nI (cnt (alone bs i) n))) (lc_range (fun i => nI (cnt (alone bs i) n)) (by omega) (lcons_ok (qC1_ok rfl (len_bs bs)) (lnil_ok _)) fun i hi => len_fil (alone bs i) fun t _ => qT_ok (q2_ok (x := tD (rings t bs)) (y := tD [i]) rfl rfl ((eq_tD _ _).trans (by rw [rings_alone hi])))) ?_
  refine s_ret (q2_ok (x := .list [nI (cnt (allr bs) n), nI (cnt (anyr bs) n)]) (qlst_ok (lcons_ok (len_fil (allr bs) fun t _ => qT_ok (q2_ok (qC1_ok (x := tD (rings t bs)) rfl (len_tD _)) (qC1_ok rfl (len_bs bs)) ((eq_nat _ _).trans (by rw [rings_all])))) (lcons_ok (len_fil (anyr bs) fun t _ => qT_ok (q2_ok (x := tD (rings t bs)) (y := tD []) rfl rfl ((ne_tD _ _).trans (by rw [rings_any])))) (lnil_ok _)))) rfl ((cat_list _ _ (by rw [List.length_map, List.length_range]; show 2 + _ ≤ 1000; omega)).trans ?_))
  unfold cts nL
  rw [List.map_cons, List.map_cons, List.map_map]
  rfl
/-! ### the round, minute by minute (the law) -/
theorem lcmL_dvds : ∀ (bs : List Bell) (s : Nat), s ∣ lcmL s bs ∧ ∀ b ∈ bs, b.1 ∣ lcmL s bs
  | [], s => ⟨Nat.dvd_refl _, fun b hb => by cases hb⟩
  | a :: bs, s => by
    obtain ⟨h1, h2⟩ := lcmL_dvds bs (Nat.lcm s a.1)
    have e : lcmL s (a :: bs) = lcmL (Nat.lcm s a.1) bs := rfl
    rw [e]
    refine ⟨Nat.dvd_trans (Nat.dvd_lcm_left _ _) h1, fun b hb => ?_⟩
    rcases List.mem_cons.mp hb with rfl | hb
    · exact Nat.dvd_trans (Nat.dvd_lcm_right _ _) h1
    · exact h2 b hb
theorem lcmL_least : ∀ (bs : List Bell) (s m : Nat), s ∣ m → (∀ b ∈ bs, b.1 ∣ m) → lcmL s bs ∣ m
  | [], s, m, h, _ => h
  | a :: bs, s, m, h, hb => lcmL_least bs (Nat.lcm s a.1) m (Nat.lcm_dvd h (hb a List.mem_cons_self)) fun b h => hb b (List.mem_cons_of_mem _ h)
def offs (bs : List Bell) (m : Nat) : Bool := bs.any fun b => decide (m % b.1 ≠ 0)
theorem round_test {bs : List Bell} (h : ∀ b ∈ bs, Ok b) (m : Nat) : qT (qC anyD (lcons (qLC (iSeq (qv 0)) [2, 3] (gT2 2 3) bYes (q2 neD (q2 modD (qv 1) (qv 2)) (qc (.int 0)))) lnil)) [bsD bs, nI m, .none, .none] = .ok (offs bs m) :=
  qT_ok (any_tf bD (fun b => decide (m % b.1 ≠ 0)) (seq_any (.inr rfl) rfl) fun b hb => ⟨_, rfl, q2_ok (q2_ok rfl rfl (mod_nat (h b hb).e1)) rfl ((neD_int _ _).trans (by
    by_cases hm : m % b.1 = 0
    · rw [hm]
      rfl
    · rw [decide_eq_false (show ¬ (((m % b.1 : Nat) : Int) = 0) by omega), decide_eq_true hm]
      rfl))⟩)
theorem round_while {bs : List Bell} (h : ∀ b ∈ bs, Ok b) : ∀ (k m fu : Nat), (∀ j, j < k → offs bs (m + j) = true) → offs bs (m + k) = false → k < fu →
    whileL (qT (qC anyD (lcons (qLC (iSeq (qv 0)) [2, 3] (gT2 2 3) bYes (q2 neD (q2 modD (qv 1) (qv 2)) (qc (.int 0)))) lnil))) lb1__law_round fu [bsD bs, nI m, .none, .none] = .nx [bsD bs, nI (m + k), .none, .none]
  | 0, m, fu, _, hk, hf => by
    obtain ⟨fu, rfl⟩ : ∃ g, fu = g + 1 := ⟨fu - 1, by omega⟩
    exact while_f ((round_test h m).trans (by rw [show offs bs m = false from hk]))
  | k + 1, m, fu, hj, hk, hf => by
    obtain ⟨fu, rfl⟩ : ∃ g, fu = g + 1 := ⟨fu - 1, by omega⟩
    have ih := round_while h k (m + 1) fu (fun j hjk => by
      have := hj (j + 1) (by omega)
      rwa [show m + (j + 1) = m + 1 + j by omega] at this) (by rwa [show m + (k + 1) = m + 1 + k by omega] at hk) (by omega)
    rw [show m + (k + 1) = m + 1 + k by omega]
    refine while_t (e1 := [bsD bs, nI (m + 1), .none, .none]) ((round_test h m).trans (by rw [show offs bs m = true from hj 0 (by omega)])) ?_ ih
    unfold lb1__law_round
    exact s_set (d := nI (m + 1)) (q2_ok rfl rfl rfl) rfl
theorem offs_no {bs : List Bell} {m : Nat} : offs bs m = false ↔ ∀ b ∈ bs, b.1 ∣ m := by
  unfold offs
  rw [Bool.eq_false_iff, ne_eq, List.any_eq_true]
  constructor
  · intro h b hb
    refine Nat.dvd_of_mod_eq_zero (Classical.byContradiction fun hn => h ⟨b, hb, decide_eq_true hn⟩)
  · rintro h ⟨b, hb, hd⟩
    exact of_decide_eq_true hd (Nat.mod_eq_zero_of_dvd (h b hb))
theorem lround_ok {bs : List Bell} (h : ∀ b ∈ bs, Ok b) : m__law_round [bsD bs] = .ok (nI (lcmL 1 bs)) := by
  obtain ⟨w1, w2⟩ := d60_le (round_ok h).2
  have hd := lcmL_dvds bs 1
  have lp := round_while h (lcmL 1 bs - 1) 1 10000 (fun j hj => by
    by_cases hq : offs bs (1 + j) = true
    · exact hq
    · rw [Bool.not_eq_true] at hq
      have := Nat.le_of_dvd (by omega) (lcmL_least bs 1 (1 + j) (Nat.one_dvd _) (offs_no.mp hq))
      omega) (by
    rw [show 1 + (lcmL 1 bs - 1) = lcmL 1 bs by omega]
    exact offs_no.mpr hd.2) (by omega)
  rw [show 1 + (lcmL 1 bs - 1) = lcmL 1 bs by omega] at lp
  refine fin_of (e' := [bsD bs, nI (lcmL 1 bs), .none, .none]) ?_
  unfold b__law_round
  exact s_set (d := .int 1) rfl (s_while lp (s_ret rfl))
/-! ### rounds come again -/
theorem rg_round {bs : List Bell} {b : Bell} (hb : b ∈ bs) (t k : Nat) : rg (t + lcmL 1 bs * k) b = rg t b := by
  unfold rg
  obtain ⟨q, hq⟩ := (lcmL_dvds bs 1).2 b hb
  rw [hq, Nat.mul_assoc, Nat.add_mul_mod_self_left]
theorem any_in {bs l : List Bell} (h : ∀ b ∈ l, b ∈ bs) (t k : Nat) : anyr l (t + lcmL 1 bs * k) = anyr l t := by
  unfold anyr
  rw [Bool.eq_iff_iff, List.any_eq_true, List.any_eq_true]
  constructor
  · rintro ⟨b, hb, hr⟩
    exact ⟨b, hb, by rwa [rg_round (h b hb)] at hr⟩
  · rintro ⟨b, hb, hr⟩
    exact ⟨b, hb, by rwa [rg_round (h b hb)]⟩
theorem all_in {bs : List Bell} (t k : Nat) : allr bs (t + lcmL 1 bs * k) = allr bs t := by
  unfold allr
  rw [Bool.eq_iff_iff, List.all_eq_true, List.all_eq_true]
  exact ⟨fun h b hb => by rw [← rg_round hb t k]; exact h b hb, fun h b hb => by rw [rg_round hb]; exact h b hb⟩
theorem oth_sub (bs : List Bell) (i : Nat) : ∀ b ∈ oth bs i, b ∈ bs := fun b hb => by
  rcases List.mem_append.mp hb with hb | hb
  · exact List.mem_of_mem_take hb
  · exact List.mem_of_mem_drop hb
theorem alone_in {bs : List Bell} {i : Nat} (hi : i < bs.length) (t k : Nat) : alone bs i (t + lcmL 1 bs * k) = alone bs i t := by
  unfold alone
  rw [any_in (oth_sub bs i), rg_round (getD_mem hi)]
theorem rings_in {bs : List Bell} (t k : Nat) : rings (t + lcmL 1 bs * k) bs = rings t bs := by
  unfold rings
  refine List.filter_congr fun i hi => rg_round (getD_mem (List.mem_range.mp hi)) t k
/-- counts of many rounds -/
theorem cts_rounds {bs : List Bell} (k r : Nat) : cts bs (lcmL 1 bs * k + r) = List.zipWith (fun a b => a + k * b) (cts bs r) (cts bs (lcmL 1 bs)) := by
  have e : ∀ P : Nat → Bool, (∀ t, P (t + lcmL 1 bs) = P t) → cnt P (lcmL 1 bs * k + r) = cnt P r + k * cnt P (lcmL 1 bs) := fun P hp => cnt_rounds hp r k
  have m1 : ∀ t, t + lcmL 1 bs = t + lcmL 1 bs * 1 := fun t => by rw [Nat.mul_one]
  unfold cts
  rw [List.zipWith_cons_cons, List.zipWith_cons_cons, e _ fun t => by rw [m1, all_in], e _ fun t => by rw [m1, any_in fun b h => h], List.zipWith_map, List.zipWith_self]
  congr 2
  refine List.map_congr_left fun i hi => e _ fun t => by rw [m1, alone_in (List.mem_range.mp hi)]
/-! ### the next ring -/
def dl (b : Bell) (t : Nat) : Nat := (((b.2 : Int) - (t : Int)) % (b.1 : Int)).toNat
theorem dl_int {b : Bell} (h : Ok b) (t : Nat) : ((b.2 : Int) - (t : Int)) % (b.1 : Int) = (dl b t : Int) := by
  have := Int.emod_nonneg ((b.2 : Int) - (t : Int)) (show ((b.1 : Nat) : Int) ≠ 0 by have := h.e1; omega)
  unfold dl
  omega
theorem dl_rg {b : Bell} (h : Ok b) (t : Nat) : rg (t + dl b t) b = true := by
  have e := dl_int h t
  have q := Int.mul_ediv_add_emod ((b.2 : Int) - (t : Int)) (b.1 : Int)
  rw [e] at q
  have hl := h.lt
  have z : ((t + dl b t : Nat) : Int) = (b.2 : Int) + (b.1 : Int) * (-(((b.2 : Int) - (t : Int)) / (b.1 : Int))) := by
    rw [Int.mul_neg]
    omega
  have w : ((t + dl b t : Nat) : Int) % (b.1 : Int) = (b.2 : Int) := by
    rw [z, Int.add_mul_emod_self_left]
    exact Int.emod_eq_of_lt (by omega) (by omega)
  unfold rg
  rw [beq_iff_eq]
  omega
theorem dl_le {b : Bell} (h : Ok b) {t j : Nat} (hr : rg (t + j) b = true) : dl b t ≤ j := by
  have e := dl_int h t
  unfold rg at hr
  rw [beq_iff_eq] at hr
  have q := Nat.div_add_mod (t + j) b.1
  rw [hr] at q
  have z : (b.2 : Int) - (t : Int) = (j : Int) + (b.1 : Int) * (-(((t + j) / b.1 : Nat) : Int)) := by
    rw [Int.mul_neg, ← Int.natCast_mul]
    omega
  rw [z, Int.add_mul_emod_self_left] at e
  have : j % b.1 = dl b t := by omega
  rw [← this]
  exact Nat.mod_le _ _
theorem dl_lt {b : Bell} (h : Ok b) (t : Nat) : dl b t < b.1 := by
  have := Int.emod_lt_of_pos ((b.2 : Int) - (t : Int)) (show (0 : Int) < ((b.1 : Nat) : Int) by have := h.e1; omega)
  rw [dl_int h t] at this
  omega
theorem min_nL {l : List Nat} {v : Nat} (h1 : v ∈ l) (h2 : ∀ y ∈ l, v ≤ y) : minD [.list (nL l)] = some (nI v) := by
  have e : nL l = (l.map fun (n : Nat) => (n : Int)).map PyData.int := by
    rw [List.map_map]
    rfl
  rw [e]
  show ((ints? _).bind mnI).map PyData.int = _
  rw [ints_map]
  cases hm : mnI (l.map fun (n : Nat) => (n : Int)) with
  | none =>
    cases l with
    | nil => cases h1
    | cons x l => cases hm
  | some m =>
    have := mnI_uniq (m' := (v : Int)) hm (List.mem_map.mpr ⟨v, h1, rfl⟩) fun y hy => by
      obtain ⟨n, hn, rfl⟩ := List.mem_map.mp hy
      have := h2 n hn
      omega
    rw [Option.bind_some, hm, ← this]
    rfl
theorem first_ring {bs : List Bell} (h : Bs bs) (h1 : 1 ≤ bs.length) (t : Nat) : ∃ L, L < 12 ∧ anyr bs (t + L) = true ∧ ∀ j, j < L → anyr bs (t + j) = false := by
  have hb := getD_mem h1
  have ok := h.ok _ hb
  have ex : ∃ L, anyr bs (t + L) = true := ⟨_, List.any_eq_true.mpr ⟨_, hb, dl_rg ok t⟩⟩
  have key : ∀ n, anyr bs (t + n) = true → ∃ L, L ≤ n ∧ anyr bs (t + L) = true ∧ ∀ j, j < L → anyr bs (t + j) = false := by
    intro n
    induction n using Nat.strongRecOn with
    | _ n ih =>
      intro hn
      by_cases hq : ∃ j, j < n ∧ anyr bs (t + j) = true
      · obtain ⟨j, hj, ha⟩ := hq
        obtain ⟨L, l1, l2⟩ := ih j hj ha
        exact ⟨L, by omega, l2⟩
      · exact ⟨n, Nat.le_refl _, hn, fun j hj => by
          rw [Bool.eq_false_iff]
          exact fun z => hq ⟨j, hj, z⟩⟩
  obtain ⟨L, l1, l2⟩ := key _ (List.any_eq_true.mpr ⟨_, hb, dl_rg ok t⟩)
  have := dl_lt ok t
  have := ok.e12
  exact ⟨L, by omega, l2⟩
theorem next_ok {bs : List Bell} (h : Bs bs) (h1 : 1 ≤ bs.length) {t L : Nat} (ht : t ≤ T18) (hr : anyr bs (t + L) = true) (hn : ∀ j, j < L → anyr bs (t + j) = false) : m_next_ring [bsD bs, nI t] = .ok (.tuple [nI (t + L), tD (rings (t + L) bs)]) := by
  have mn : minD [.list (nL (bs.map fun b => t + dl b t))] = some (nI (t + L)) := by
    have low : ∀ b ∈ bs, L ≤ dl b t := fun b hb => Nat.le_of_not_lt fun z => by
      have h2 := hn _ z
      rw [show anyr bs (t + dl b t) = true from List.any_eq_true.mpr ⟨b, hb, dl_rg (h.ok b hb) t⟩] at h2
      cases h2
    obtain ⟨b, hb, hrb⟩ := List.any_eq_true.mp hr
    refine min_nL (List.mem_map.mpr ⟨b, hb, ?_⟩) fun y hy => ?_
    · have := low b hb
      have := dl_le (h.ok b hb) hrb
      show t + dl b t = t + L
      omega
    · obtain ⟨c, hc, rfl⟩ := List.mem_map.mp hy
      have := low c hc
      show t + L ≤ t + dl c t
      omega
  refine fin_of (e' := [bsD bs, nI t, nI (t + L), .none, .none]) ?_
  unfold b_next_ring
  refine s_expr (qF2 rfl rfl (cm_ok h h1 ht)) (s_set (d := nI (t + L)) (qC1_ok (x := .list (nL (bs.map fun b => t + dl b t))) ((lc_typ bD (g := fun b => nI (t + dl b t)) (seq_any (.inr rfl) rfl) fun b hb => ⟨_, rfl, ?_⟩).trans ?_) mn) ?_)
  · have ok := h.ok b hb
    have e1 := ok.e1
    refine q2_ok (x := nI t) (y := nI (dl b t)) rfl (q2_ok (x := .int ((b.2 : Int) - (t : Int))) (y := nI b.1) (q2_ok rfl rfl (sub_int _ _)) rfl ((mod_ok (by omega)).trans ?_)) rfl
    rw [dl_int ok]
    rfl
  · unfold nL
    rw [List.map_map]
    rfl
  · refine s_ret (qtup_ok (lcons_ok rfl (lcons_ok (q1_ok (d := .list (nL (rings (t + L) bs))) (qF2 rfl rfl (rings_ok h.ok _)) rfl) (lnil_ok _))))
/-! ### draws -/
theorem dr : Dr m__law_draw := dr_g (mx := mixA 40692 31) (k1 := 40014) (k2 := 2147483563) (mx_A (by decide)) (by decide)
theorem an : An m__law_any := any_ok dr
theorem hand_made (ns : List Int) : ∃ h, m__law_hand ns = .ok h ∧ HandOk h := hand_g el_abs (y_len 61 7 (by decide)) ns
def E10 : List Nat := [1, 2, 3, 4, 4, 5, 6, 6, 10, 12]
theorem E10_8 : ∀ e ∈ E10, e ∈ e8 := by decide
theorem lbells_loop : ∀ (ds : List Dt) (h : Dt) (bs : List Bell), HandOk h → bs.length + ds.length ≤ 4 → (∀ b ∈ bs, Ok b) → ∃ (h' : Dt) (bs' : List Bell), forL (gN 3) lb1__law_bells ds [h, .int 4, .list (bs.map bD), .none, .none] = .nx [h', .int 4, .list (bs'.map bD), .none, .none] ∧ HandOk h' ∧ bs'.length = bs.length + ds.length ∧ ∀ b ∈ bs', Ok b
  | [], h, bs, ok, _, hv => ⟨h, bs, rfl, ok, rfl, hv⟩
  | d :: ds, h, bs, ok, hl, hv => by
    rw [List.length_cons] at hl
    obtain ⟨x, h1, a1, k1, m1⟩ := an h ok (nL E10) (by decide) (by decide)
    obtain ⟨e, he, rfl⟩ := List.mem_map.mp m1
    have he8 := E10_8 e he
    have e12 := e8_le e he8
    obtain ⟨y, h2, a2, k2, y0, y1⟩ := dr h1 k1 (e : Int) (by omega) (by omega)
    obtain ⟨f, rfl⟩ : ∃ f : Nat, y = (f : Int) := ⟨y.toNat, by omega⟩
    have okb : Ok (e, f) := ⟨he8, by show f < e; omega⟩
    obtain ⟨h', bs', e', ok', l', v'⟩ := lbells_loop ds h2 (bs ++ [(e, f)]) k2 (by rw [List.length_append]; show _ + 1 + _ ≤ 4; omega) fun p hp => by
      rcases List.mem_append.mp hp with hp | hp
      · exact hv p hp
      · rw [List.mem_singleton.mp hp]
        exact okb
    refine ⟨h', bs', for_cons (e1 := [h, .int 4, .list (bs.map bD), d, .none]) (e2 := [h2, .int 4, .list ((bs ++ [(e, f)]).map bD), .none, .none]) rfl ?_ e', ok', by rw [l', List.length_append, List.length_singleton, List.length_cons]; omega, v'⟩
    unfold lb1__law_bells
    refine s_setM (d := nI e) (e1 := [h1, .int 4, .list (bs.map bD), d, .none]) (mio_ok (mcons_ok (mQ_ok rfl) (mnil_ok _)) a1) ?_
    show sSeq _ _ [h1, .int 4, .list (bs.map bD), d, nI e] = _
    refine s_app (ds := bs.map bD) (d := bD (e, f)) (e1 := [h2, .int 4, .list (bs.map bD), d, nI e]) (mtup_ok (mcons_ok (mQ_ok rfl) (mcons_ok (mio_ok (mcons_ok (mQ_ok rfl) (mnil_ok _)) a2) (mnil_ok _)))) rfl rfl (by rw [List.length_map, sizeLine_eq]; omega) ?_
    rw [List.map_append]
    rfl
theorem lbells_ok {h : Dt} (ok : HandOk h) : ∃ bs h', m__law_bells h [.int 4] = .ok (bsD bs, h') ∧ HandOk h' ∧ Bs bs ∧ 1 ≤ bs.length := by
  obtain ⟨d, h1, a1, k1, p1, p2⟩ := dr h ok 4 (by decide) (by decide)
  obtain ⟨h', bs', e, ok', l', v'⟩ := lbells_loop (rangeD 0 (1 + d)) h1 [] k1 (by rw [range_len]; show 0 + _ ≤ 4; omega) fun p hp => by cases hp
  rw [range_len] at l'
  have l' : bs'.length = 0 + (1 + d).toNat := l'
  refine ⟨bs', h', finM_of (e' := [h', .int 4, .list (bs'.map bD), .none, .none]) ?_ rfl, ok', ⟨by omega, v'⟩, by omega⟩
  unfold b__law_bells
  have it : imOf rg1 (mcons (m2 addD (mQ (qc (.int 1))) (mIo 0 m__law_draw (mcons (mQ (qv 1)) mnil))) mnil) [h, .int 4, .list [], .none, .none] = .ok (rangeD 0 (1 + d), [h1, .int 4, .list [], .none, .none]) := by
    unfold imOf
    rw [mB_ok (mcons_ok (m2_ok (mQ_ok rfl) (mio_ok (mcons_ok (mQ_ok rfl) (mnil_ok _)) a1) (add_int 1 d)) (mnil_ok _))]
    exact mO_ok (rg1_ok (by omega) (by omega))
  exact s_set (d := .list []) rfl (s_forM it e (s_ret rfl))
/-! ### refusals -/
def bt (x y : Dt) : Dt := .tuple [x, y]
def N13 : List Dt := [.none, .tuple [], .tuple [bt (.int 0) (.int 0)], .tuple [bt (.int 61) (.int 0)], .tuple [bt (.int 3) (.int 3)], .tuple [bt (.int 3) (.int (-1))], .list [bt (.int 3) (.int 0)], .tuple [.tuple [.int 3, .int 0, .int 0]], .tuple (List.replicate 7 (bt (.int 3) (.int 0))), .tuple [bt (.bool true) (.int 0)], .tuple [.str "?"], .tuple [.list [.int 3, .int 0]], .tuple [bt (.int 3) .none]]
def B6 : List Dt := [.int (-1), .none, .bool true, .str "5", .int 1000000000000000001, .tuple [.int 3]]
def O5 (n : Nat) : List Dt := [nI n, .int (-1), .none, .bool true, .str "0"]
theorem cbX : ∀ d ∈ N13, m_check_bells [d] = .exc ⟨"NoBells", .none⟩ := by
  intro d hd
  simp only [N13, List.mem_cons, List.not_mem_nil, or_false] at hd
  rcases hd with rfl | rfl | rfl | rfl | rfl | rfl | rfl | rfl | rfl | rfl | rfl | rfl | rfl <;> kernel_rfl
theorem cmX {d : Dt} {c : Ec} (h : m_check_bells [d] = .exc c) (x : Dt) : m_check_minute [d, x] = .exc c := by
  refine fin_ex ?_
  unfold b_check_minute
  exact s_exprX (qF1 rfl h)
theorem cmB {bs : List Bell} (h : Bs bs) (h1 : 1 ≤ bs.length) : ∀ d ∈ B6, m_check_minute [bsD bs, d] = .exc ⟨"NoMinute", .none⟩ := by
  intro d hd
  have w : m_is_within [d, .int 0, .int 1000000000000000000] = .ok (.bool false) := by
    rw [pwithin]
    simp only [B6, List.mem_cons, List.not_mem_nil, or_false] at hd
    rcases hd with rfl | rfl | rfl | rfl | rfl | rfl <;> rfl
  refine fin_ex ?_
  unfold b_check_minute
  exact s_expr (qF1 rfl (cb_ok h h1)) (s_iftX (bNot_ok (b := false) (qT3 rfl rfl rfl w)))
theorem raX {d x : Dt} {c : Ec} (h : m_check_minute [d, x] = .exc c) : m_rings_at [d, x] = .exc c := by
  refine fin_ex ?_
  unfold b_rings_at
  exact s_exprX (qF2 rfl rfl h)
theorem nrX {d x : Dt} {c : Ec} (h : m_check_minute [d, x] = .exc c) : m_next_ring [d, x] = .exc c := by
  refine fin_ex ?_
  unfold b_next_ring
  exact s_exprX (qF2 rfl rfl h)
theorem rcX {d x : Dt} {c : Ec} (h : m_check_minute [d, x] = .exc c) : m_ring_count [d, x] = .exc c := by
  refine fin_ex ?_
  unfold b_ring_count
  exact s_exprX (qF2 rfl rfl h)
theorem tcX {d x : Dt} {c : Ec} (h : m_check_minute [d, x] = .exc c) : m_together_count [d, x] = .exc c := by
  refine fin_ex ?_
  unfold b_together_count
  exact s_exprX (qF2 rfl rfl h)
theorem roX {d : Dt} {c : Ec} (h : m_check_bells [d] = .exc c) : m_round_of_bells [d] = .exc c := by
  refine fin_ex ?_
  unfold b_round_of_bells
  exact s_exprX (qF1 rfl h)
theorem acX {d x y : Dt} {c : Ec} (h : m_check_bells [d] = .exc c) : m_alone_count [d, x, y] = .exc c := by
  refine fin_ex ?_
  unfold b_alone_count
  exact s_exprX (qF1 rfl h)
theorem subB {n : Nat} (h : 1 ≤ n) : subD (nI n) (.int 1) = some (.int ((n - 1 : Nat) : Int)) := by
  show some (PyData.int ((n : Int) - 1)) = _
  congr 2
  omega
theorem acO {bs : List Bell} (h : Bs bs) (h1 : 1 ≤ bs.length) (x : Dt) : ∀ d ∈ O5 bs.length, m_alone_count [bsD bs, d, x] = .exc ⟨"NoFloor", .none⟩ := by
  intro d hd
  have w : m_is_within [d, .int 0, .int ((bs.length - 1 : Nat) : Int)] = .ok (.bool false) := by
    rw [pwithin]
    simp only [O5, List.mem_cons, List.not_mem_nil, or_false] at hd
    rcases hd with rfl | rfl | rfl | rfl | rfl
    · show VL.R.ok (PyData.bool (decide ((0 : Int) ≤ (bs.length : Int)) && decide ((bs.length : Int) ≤ ((bs.length - 1 : Nat) : Int)))) = _
      rw [decide_eq_false (show ¬ (bs.length : Int) ≤ ((bs.length - 1 : Nat) : Int) by omega), Bool.and_false]
    · rfl
    · rfl
    · rfl
    · rfl
  refine fin_ex ?_
  unfold b_alone_count
  exact s_expr (qF1 rfl (cb_ok h h1)) (s_iftX (bNot_ok (b := false) (qT3 rfl rfl (q2_ok (qC1_ok rfl (len_bs bs)) rfl (subB h1)) w)))
theorem ac0 {bs : List Bell} (h : Bs bs) (h1 : 1 ≤ bs.length) {x : Dt} {c : Ec} (hx : m_check_minute [bsD bs, x] = .exc c) : m_alone_count [bsD bs, .int 0, x] = .exc c := by
  refine fin_ex ?_
  unfold b_alone_count
  exact s_expr (qF1 rfl (cb_ok h h1)) (s_iffN (bNot_ok (b := true) (qT3 rfl rfl (q2_ok (qC1_ok rfl (len_bs bs)) rfl (subB h1)) (win_nat (v := 0) (lo := 0) (Nat.zero_le _) (Nat.zero_le _)))) (s_exprX (qF2 rfl rfl hx)))
theorem w_bells : mw__law_word (.exc ⟨"NoBells", .none⟩) = .ok (.str "bells") := by kernel_rfl
theorem w_minute : mw__law_word (.exc ⟨"NoMinute", .none⟩) = .ok (.str "minute") := by kernel_rfl
theorem w_floor : mw__law_word (.exc ⟨"NoFloor", .none⟩) = .ok (.str "floor") := by kernel_rfl
theorem lbad_ok {h : Dt} (ok : HandOk h) : ∃ d h', m__law_bad_bells h [] = .ok (d, h') ∧ HandOk h' ∧ d ∈ N13 := by
  obtain ⟨d, h', a, k, m⟩ := an h ok N13 (by decide) (by decide)
  refine ⟨d, h', finM_of (e' := [h', .list (N13.take 10)]) ?_ rfl, k, m⟩
  unfold b__law_bad_bells
  exact s_set (d := .list (N13.take 5)) rfl (s_set (d := .list (N13.take 10)) rfl (s_retM (mio_ok (mcons_ok (mQ_ok rfl) (mnil_ok _)) a)))
/-! ### what the law asks of refusals -/
theorem refused_ok {bs : List Bell} (H : Bs bs) (h1 : 1 ≤ bs.length) {h : Dt} (ok : HandOk h) : ∃ h', m__law_refused_right h [bsD bs] = .ok (.bool true, h') ∧ HandOk h' := by
  obtain ⟨no, ha, a1, k1, u1⟩ := lbad_ok ok
  obtain ⟨bad, hb, a2, k2, u2⟩ := an ha k1 B6 (by decide) (by decide)
  obtain ⟨odd, hc, a3, k3, u3⟩ := an hb k2 (O5 bs.length) (by show 0 < 5; decide) (by show 5 < _; decide)
  refine ⟨hc, finM_of (e' := [hc, bsD bs, no, bad, odd, .list [.str "bells", .str "minute", .str "bells", .str "minute", .str "bells", .str "floor", .str "minute", .str "minute", .str "bells", .str "bells"], .list [.str "bells", .str "minute", .str "bells", .str "minute", .str "bells", .str "floor", .str "minute", .str "minute", .str "bells", .str "bells"]]) ?_ rfl, k3⟩
  unfold b__law_refused_right
  have e1 : mtup (mcons (mIo 0 m__law_bad_bells mnil) (mcons (mIo 0 m__law_any (mcons (mQ (qlst (lcons (q1 negD (qc (.int 1))) (lcons (qc .none) (lcons (qc (.bool true)) (lcons (qc (.str "5")) (lcons (q2 addD (q2 powD (qc (.int 10)) (qc (.int 18))) (qc (.int 1))) (lcons (qtup (lcons (qc (.int 3)) lnil)) lnil)))))))) mnil)) mnil)) [h, bsD bs, .none, .none, .none, .none, .none] = .ok (.tuple [no, bad], [hb, bsD bs, .none, .none, .none, .none, .none]) :=
    mtup_ok (mcons_ok (e1 := [ha, bsD bs, .none, .none, .none, .none, .none]) (mio_ok (mnil_ok _) a1) (mcons_ok (mio_ok (mcons_ok (mQ_ok (show _ = VL.R.ok (PyData.list B6) from rfl)) (mnil_ok _)) a2) (mnil_ok _)))
  refine s_asgM e1 rfl ?_
  show sSeq _ _ [hb, bsD bs, no, bad, .none, .none, .none] = _
  have e2 : qlst (lcons (qC lenD (lcons (qv 1) lnil)) (lcons (q1 negD (qc (.int 1))) (lcons (qc .none) (lcons (qc (.bool true)) (lcons (qc (.str "0")) lnil))))) [hb, bsD bs, no, bad, .none, .none, .none] = .ok (.list (O5 bs.length)) :=
    qlst_ok (lcons_ok (qC1_ok rfl (len_bs bs)) (lcons_ok rfl (lcons_ok rfl (lcons_ok rfl (lcons_ok rfl (lnil_ok _))))))
  refine s_setM (d := odd) (e1 := [hc, bsD bs, no, bad, .none, .none, .none]) (mio_ok (mcons_ok (mQ_ok e2) (mnil_ok _)) a3) ?_
  show sSeq _ _ [hc, bsD bs, no, bad, odd, .none, .none] = _
  have cN := cbX no u1
  have cM := cmX cN
  have cB := cmB H h1 bad u2
  refine s_set (d := .list [.str "bells", .str "minute"]) (qlst_ok (lcons_ok (lam_ok (qF2 rfl rfl (raX (cM bad))) w_bells) (lcons_ok (lam_ok (qF2 rfl rfl (raX cB)) w_minute) (lnil_ok _)))) ?_
  show sSeq _ _ [hc, bsD bs, no, bad, odd, .list [.str "bells", .str "minute"], .none] = _
  refine s_app (d := .str "bells") (ds := [.str "bells", .str "minute"]) (mQ_ok (lam_ok (qF2 rfl rfl (nrX (cM _))) w_bells)) rfl rfl (by rw [sizeLine_eq]; show 2 < _; decide) ?_
  show sSeq _ _ [hc, bsD bs, no, bad, odd, .list [.str "bells", .str "minute", .str "bells"], .none] = _
  refine s_app (d := .str "minute") (ds := [.str "bells", .str "minute", .str "bells"]) (mQ_ok (lam_ok (qF2 rfl rfl (nrX cB)) w_minute)) rfl rfl (by rw [sizeLine_eq]; show 3 < _; decide) ?_
  show sSeq _ _ [hc, bsD bs, no, bad, odd, .list [.str "bells", .str "minute", .str "bells", .str "minute"], .none] = _
  refine s_app (d := .str "bells") (ds := [.str "bells", .str "minute", .str "bells", .str "minute"]) (mQ_ok (lam_ok (qF3 rfl rfl rfl (acX cN)) w_bells)) rfl rfl (by rw [sizeLine_eq]; show 4 < _; decide) ?_
  show sSeq _ _ [hc, bsD bs, no, bad, odd, .list [.str "bells", .str "minute", .str "bells", .str "minute", .str "bells"], .none] = _
  refine s_app (d := .str "floor") (ds := [.str "bells", .str "minute", .str "bells", .str "minute", .str "bells"]) (mQ_ok (lam_ok (qF3 rfl rfl rfl (acO H h1 bad odd u3)) w_floor)) rfl rfl (by rw [sizeLine_eq]; show 5 < _; decide) ?_
  show sSeq _ _ [hc, bsD bs, no, bad, odd, .list [.str "bells", .str "minute", .str "bells", .str "minute", .str "bells", .str "floor"], .none] = _
  refine s_app (d := .str "minute") (ds := [.str "bells", .str "minute", .str "bells", .str "minute", .str "bells", .str "floor"]) (mQ_ok (lam_ok (qF3 rfl rfl rfl (ac0 H h1 cB)) w_minute)) rfl rfl (by rw [sizeLine_eq]; show 6 < _; decide) ?_
  show sSeq _ _ [hc, bsD bs, no, bad, odd, .list [.str "bells", .str "minute", .str "bells", .str "minute", .str "bells", .str "floor", .str "minute"], .none] = _
  refine s_app (d := .str "minute") (ds := [.str "bells", .str "minute", .str "bells", .str "minute", .str "bells", .str "floor", .str "minute"]) (mQ_ok (lam_ok (qF2 rfl rfl (rcX cB)) w_minute)) rfl rfl (by rw [sizeLine_eq]; show 7 < _; decide) ?_
  show sSeq _ _ [hc, bsD bs, no, bad, odd, .list [.str "bells", .str "minute", .str "bells", .str "minute", .str "bells", .str "floor", .str "minute", .str "minute"], .none] = _
  refine s_app (d := .str "bells") (ds := [.str "bells", .str "minute", .str "bells", .str "minute", .str "bells", .str "floor", .str "minute", .str "minute"]) (mQ_ok (lam_ok (qF2 rfl rfl (tcX (cM bad))) w_bells)) rfl rfl (by rw [sizeLine_eq]; show 8 < _; decide) ?_
  show sSeq _ _ [hc, bsD bs, no, bad, odd, .list [.str "bells", .str "minute", .str "bells", .str "minute", .str "bells", .str "floor", .str "minute", .str "minute", .str "bells"], .none] = _
  refine s_app (d := .str "bells") (ds := [.str "bells", .str "minute", .str "bells", .str "minute", .str "bells", .str "floor", .str "minute", .str "minute", .str "bells"]) (mQ_ok (lam_ok (qF1 rfl (roX cN)) w_bells)) rfl rfl (by rw [sizeLine_eq]; show 9 < _; decide) ?_
  show sSeq _ _ [hc, bsD bs, no, bad, odd, .list [.str "bells", .str "minute", .str "bells", .str "minute", .str "bells", .str "floor", .str "minute", .str "minute", .str "bells", .str "bells"], .none] = _
  exact s_set rfl (s_ret (q2_ok rfl rfl (by kernel_rfl)))
/-! ### the law's inner turn -/
theorem lring_while {bs : List Bell} (H : Bs bs) (A B D4 D5 D6 D7 D8 D9 : Dt) (rest : En) : ∀ (k m fu : Nat), (∀ j, j < k → anyr bs (m + j) = false) → anyr bs (m + k) = true → k < fu →
    whileL (qT (q2 eqD (qF m__law_rings (lcons (qv 2) (lcons (qv 9) lnil))) (qtup lnil))) lb3_law fu (A :: B :: bsD bs :: D4 :: D5 :: D6 :: D7 :: D8 :: D9 :: nI m :: rest) = .nx (A :: B :: bsD bs :: D4 :: D5 :: D6 :: D7 :: D8 :: D9 :: nI (m + k) :: rest) := by
  intro k
  induction k with
  | zero =>
    intro m fu _ hk hf
    obtain ⟨fu, rfl⟩ : ∃ g, fu = g + 1 := ⟨fu - 1, by omega⟩
    have hk : anyr bs m = true := hk
    rw [← rings_any, decide_eq_true_iff] at hk
    exact while_f (qT_ok (q2_ok (x := tD (rings m bs)) (y := tD []) (qF2 rfl rfl (lrings_ok H.ok m)) rfl ((eq_tD _ _).trans (by rw [decide_eq_false hk]))))
  | succ k ih =>
    intro m fu hj hk hf
    obtain ⟨fu, rfl⟩ : ∃ g, fu = g + 1 := ⟨fu - 1, by omega⟩
    have h0 : anyr bs m = false := hj 0 (by omega)
    rw [← rings_any, decide_eq_false_iff_not, ne_eq, Decidable.not_not] at h0
    have ih := ih (m + 1) fu (fun j hjk => by
      have := hj (j + 1) (by omega)
      rwa [show m + (j + 1) = m + 1 + j by omega] at this) (by rwa [show m + (k + 1) = m + 1 + k by omega] at hk) (by omega)
    rw [show m + (k + 1) = m + 1 + k by omega]
    refine while_t (e1 := A :: B :: bsD bs :: D4 :: D5 :: D6 :: D7 :: D8 :: D9 :: nI (m + 1) :: rest) (qT_ok (q2_ok (x := tD (rings m bs)) (y := tD []) (qF2 rfl rfl (lrings_ok H.ok m)) rfl ((eq_tD _ _).trans (by rw [decide_eq_true h0])))) ?_ ih
    unfold lb3_law
    exact s_set (d := nI (m + 1)) (q2_ok rfl rfl rfl) rfl
theorem shp_pr (n : Nat) (l : List Nat) : Shp 64 (.tuple [nI n, tD l]) := (shp_tup (k := 1) fun d hd => by
  simp only [List.mem_cons, List.not_mem_nil, or_false] at hd
  rcases hd with rfl | rfl
  · exact shp_int _
  · exact shp_tD (k := 0) l).mono (by decide)
theorem ne_pr (n : Nat) (l : List Nat) : neD (.tuple [nI n, tD l]) (.tuple [nI n, tD l]) = some (.bool false) := by
  rw [ne_shp (shp_pr n l) (shp_pr n l)]
  have : PyData.eqv (.tuple [nI n, tD l]) (.tuple [nI n, tD l]) = true := by
    show (PyData.eqv (nI n) (nI n) && (PyData.eqv (tD l) (tD l) && true)) = true
    rw [eqv_nat, eqv_tD, decide_eq_true rfl, decide_eq_true rfl]
    rfl
  rw [this]
  rfl
def E15 (h : Dt) (bs : List Bell) (t : Dt) (W ti : Nat) (a : Dt) : En := [.none, h, bsD bs, t, nI W, nI ti, a, .none, .none, .none, .none, .none, .none, .none, .none]
theorem inner {bs : List Bell} (H : Bs bs) (h1 : 1 ≤ bs.length) {h : Dt} (ok : HandOk h) (t a : Dt) {ti : Nat} (ht : ti ≤ 10000000000000000) : ∃ h', lb2_law (E15 h bs t (lcmL 1 bs) ti a) = .nx (E15 h' bs t (lcmL 1 bs) ti .none) ∧ HandOk h' := by
  obtain ⟨w1, w2⟩ := d60_le (round_ok H.ok).2
  obtain ⟨d, h', a1, k1, d0, d1⟩ := dr h ok (lcmL 1 bs : Int) (by omega) (by omega)
  obtain ⟨s, rfl⟩ : ∃ s : Nat, d = (s : Int) := ⟨d.toNat, by omega⟩
  obtain ⟨L, l1, l2, l3⟩ := first_ring H h1 s
  have lp := lring_while H .none h' t (nI (lcmL 1 bs)) (nI ti) a (nI s) (nI (s + lcmL 1 bs * ti)) [.none, .none, .none, .none, .none] L s 10000 l3 l2 (by omega)
  have big : lcmL 1 bs * ti ≤ 60 * 10000000000000000 := Nat.mul_le_mul w2 ht
  have t18 : s + lcmL 1 bs * ti ≤ T18 := by unfold T18; omega
  have nx := next_ok H h1 (t := s + lcmL 1 bs * ti) (L := L) t18 (by rw [show s + lcmL 1 bs * ti + L = s + L + lcmL 1 bs * ti by omega, any_in fun b h => h]; exact l2) fun j hj => by
    rw [show s + lcmL 1 bs * ti + j = s + j + lcmL 1 bs * ti by omega, any_in fun b h => h]
    exact l3 j hj
  rw [show s + lcmL 1 bs * ti + L = s + L + lcmL 1 bs * ti by omega, rings_in] at nx
  have mu : mulD (nI (lcmL 1 bs)) (nI ti) = some (nI (lcmL 1 bs * ti)) := (mul_r (by constructor <;> omega)).trans (by rw [show ((lcmL 1 bs : Nat) : Int) * ((ti : Nat) : Int) = ((lcmL 1 bs * ti : Nat) : Int) by rw [Int.natCast_mul]]; rfl)
  refine ⟨h', ?_, k1⟩
  unfold lb2_law E15
  refine s_setM (d := nI s) (e1 := [.none, h', bsD bs, t, nI (lcmL 1 bs), nI ti, a, .none, .none, .none, .none, .none, .none, .none, .none]) (mio_ok (mcons_ok (mQ_ok rfl) (mnil_ok _)) a1) ?_
  show sSeq _ _ [.none, h', bsD bs, t, nI (lcmL 1 bs), nI ti, a, nI s, .none, .none, .none, .none, .none, .none, .none] = _
  refine s_par2 (d1 := nI (s + lcmL 1 bs * ti)) (d2 := nI s) (q2_ok (x := nI s) (y := nI (lcmL 1 bs * ti)) rfl (q2_ok (x := nI (lcmL 1 bs)) (y := nI ti) rfl rfl mu) rfl) rfl ?_
  show sSeq _ _ [.none, h', bsD bs, t, nI (lcmL 1 bs), nI ti, a, nI s, nI (s + lcmL 1 bs * ti), nI s, .none, .none, .none, .none, .none] = _
  refine s_while lp ?_
  refine s_iffN (qT_ok (q2_ok (x := tD (rings (s + lcmL 1 bs * ti) bs)) (y := tD (rings s bs)) (qF2 rfl rfl (rat_ok H h1 t18)) (qF2 rfl rfl (lrings_ok H.ok s)) ((ne_tD _ _).trans (by rw [rings_in, decide_eq_false (fun z => z rfl)])))) ?_
  refine s_iffN (qT_ok (q2_ok (x := .tuple [nI (s + L + lcmL 1 bs * ti), tD (rings (s + L) bs)]) (qF2 rfl rfl nx) (qtup_ok (lcons_ok (q2_ok (x := nI (s + L)) (y := nI (lcmL 1 bs * ti)) rfl (q2_ok (x := nI (lcmL 1 bs)) (y := nI ti) rfl rfl mu) rfl) (lcons_ok (qF2 rfl rfl (lrings_ok H.ok (s + L))) (lnil_ok _)))) (ne_pr _ _))) rfl
/-! ### the law -/
theorem ne_L (l : List Nat) : neD (.list (nL l)) (.list (nL l)) = some (.bool false) := by
  have s : Shp 64 (.list (nL l)) := (shp_lst (k := 0) fun d hd => by
    obtain ⟨n, _, rfl⟩ := List.mem_map.mp hd
    exact shp_int _).mono (by decide)
  rw [ne_shp s s]
  have : PyData.eqv (.list (nL l)) (.list (nL l)) = true := by
    have := eqv_tD l l
    rw [decide_eq_true rfl] at this
    exact this
  rw [this]
  rfl
theorem ne_N (n : Nat) : neD (nI n) (nI n) = some (.bool false) := by
  refine (neD_int _ _).trans ?_
  rw [decide_eq_true rfl]
  rfl
def prD (p : Nat × Nat) : Dt := .tuple [nI p.1, nI p.2]
theorem zipL_nL : ∀ A B : List Nat, zipL (nL A) (nL B) = (List.zip A B).map prD
  | [], _ => by cases ‹List Nat› <;> rfl
  | _ :: _, [] => rfl
  | a :: A, b :: B => by
    show PyData.tuple [nI a, nI b] :: zipL (nL A) (nL B) = _
    rw [zipL_nL A B]
    rfl
theorem zip_two (A B : List Nat) : zipO [.list (nL A), .list (nL B)] = some ((List.zip A B).map prD) := by
  rw [← zipL_nL]
  rfl
theorem add_NN (a b : Nat) : addD (nI a) (nI b) = some (nI (a + b)) := by
  refine (add_int _ _).trans ?_
  rw [← Int.natCast_add]
  rfl
theorem mul_NN {a : Nat} (h : a < 2 ^ 64) (b : Nat) : mulD (nI a) (nI b) = some (nI (a * b)) := by
  refine (mul_l (by constructor <;> omega)).trans ?_
  rw [← Int.natCast_mul]
  rfl
theorem zw_nL (k : Nat) : ∀ A B : List Nat, (List.zip A B).map (fun p => nI (p.1 + k * p.2)) = nL (List.zipWith (fun a b => a + k * b) A B)
  | [], _ => by cases ‹List Nat› <;> rfl
  | _ :: _, [] => rfl
  | a :: A, b :: B => by
    show nI (a + k * b) :: (List.zip A B).map (fun p => nI (p.1 + k * p.2)) = _
    rw [zw_nL k A B]
    rfl
theorem two_bells (b c : Bell) (n : Nat) : cnt (alone [b, c] 0) n + cnt (alone [b, c] 1) n + cnt (allr [b, c]) n = cnt (anyr [b, c]) n := by
  induction n with
  | zero => rfl
  | succ n ih =>
    rw [cnt_succ, cnt_succ, cnt_succ, cnt_succ]
    have e0 : alone [b, c] 0 n = (rg n b && !(rg n c || false)) := rfl
    have e1 : alone [b, c] 1 n = (rg n c && !(rg n b || false)) := rfl
    have e2 : allr [b, c] n = (rg n b && (rg n c && true)) := rfl
    have e3 : anyr [b, c] n = (rg n b || (rg n c || false)) := rfl
    rw [e0, e1, e2, e3]
    cases rg n b <;> cases rg n c <;> simp <;> omega
theorem third {bs : List Bell} (A B T W0 TI X6 X7 X8 X9 R X11 X13 X14 : Dt) (W : Nat) : bAnd (qT (q2 eqD (qC lenD (lcons (qv 2) lnil)) (qc (.int 2)))) (qT (q2 neD (q2 addD (q2 addD (q2 ixD (qv 12) (qc (.int 2))) (q2 ixD (qv 12) (qc (.int 3)))) (q2 ixD (qv 12) (qc (.int 0)))) (q2 ixD (qv 12) (qc (.int 1))))) [A, B, bsD bs, T, W0, TI, X6, X7, X8, X9, R, X11, .list (nL (cts bs W)), X13, X14] = .ok false := by
  have e1 : qT (q2 eqD (qC lenD (lcons (qv 2) lnil)) (qc (.int 2))) [A, B, bsD bs, T, W0, TI, X6, X7, X8, X9, R, X11, .list (nL (cts bs W)), X13, X14] = .ok (decide (bs.length = 2)) := qT_ok (q2_ok (qC1_ok rfl (len_bs bs)) (y := nI 2) rfl (eq_nat _ _))
  by_cases h2 : bs.length = 2
  · rw [decide_eq_true h2] at e1
    match bs, h2 with
    | [b, c], _ =>
      have tb := two_bells b c W
      refine (bAnd_t e1).trans (qT_ok (q2_ok (x := nI (cnt (alone [b, c] 0) W + cnt (alone [b, c] 1) W + cnt (allr [b, c]) W)) (y := nI (cnt (anyr [b, c]) W)) (q2_ok (x := nI (cnt (alone [b, c] 0) W + cnt (alone [b, c] 1) W)) (y := nI (cnt (allr [b, c]) W)) (q2_ok (x := nI (cnt (alone [b, c] 0) W)) (y := nI (cnt (alone [b, c] 1) W)) (q2_ok rfl rfl rfl) (q2_ok rfl rfl rfl) rfl) (q2_ok rfl rfl rfl) rfl) (q2_ok rfl rfl rfl) ?_))
      rw [tb]
      exact ne_N _
  · rw [decide_eq_false h2] at e1
    exact bAnd_f e1
def T5 : List Nat := [0, 1, 7, 1000000000, 10000000000000000]
theorem inner_loop {bs : List Bell} (H : Bs bs) (h1 : 1 ≤ bs.length) (t : Dt) {ti : Nat} (ht : ti ≤ 10000000000000000) : ∀ (ds : List Dt) (h : Dt), HandOk h → ∃ h', forL (gN 6) lb2_law ds (E15 h bs t (lcmL 1 bs) ti .none) = .nx (E15 h' bs t (lcmL 1 bs) ti .none) ∧ HandOk h' := by
  intro ds
  induction ds with
  | nil => exact fun h k => ⟨h, rfl, k⟩
  | cons d ds ih =>
    intro h k
    obtain ⟨ha, e1, k1⟩ := inner H h1 k t d ht
    obtain ⟨hb, e2, k2⟩ := ih ha k1
    exact ⟨hb, for_cons (e1 := E15 h bs t (lcmL 1 bs) ti d) rfl e1 e2, k2⟩
set_option maxHeartbeats 4000000 in
theorem law_turn {h : Dt} (ok : HandOk h) (b t : Dt) : ∃ h' b', lb1_law [.none, h, b, t, .none, .none, .none, .none, .none, .none, .none, .none, .none, .none, .none] = .nx [.none, h', b', .none, .none, .none, .none, .none, .none, .none, .none, .none, .none, .none, .none] ∧ HandOk h' := by
  obtain ⟨bs, ha, a1, k1, H, h1⟩ := lbells_ok ok
  obtain ⟨x, hb, a2, k2, m2⟩ := an ha k1 (nL T5) (by decide) (by decide)
  obtain ⟨ti, hti, rfl⟩ := List.mem_map.mp m2
  have ht : ti ≤ 10000000000000000 := (show ∀ n ∈ T5, n ≤ 10000000000000000 by decide) ti hti
  obtain ⟨hc, a3, k3⟩ := refused_ok H h1 k2
  obtain ⟨hd, lp, k4⟩ := inner_loop H h1 t ht (rangeD 0 4) hc k3
  obtain ⟨w1, w2⟩ := d60_le (round_ok H.ok).2
  obtain ⟨d, he, a5, k5, d0, d1⟩ := dr hd k4 (lcmL 1 bs : Int) (by omega) (by omega)
  obtain ⟨r, rfl⟩ : ∃ s : Nat, d = (s : Int) := ⟨d.toNat, by omega⟩
  have big : lcmL 1 bs * ti ≤ 60 * 10000000000000000 := Nat.mul_le_mul w2 ht
  have t18 : lcmL 1 bs * ti + r ≤ T18 := by unfold T18; omega
  have r18 : r ≤ T18 := by unfold T18; omega
  have mu : mulD (nI (lcmL 1 bs)) (nI ti) = some (nI (lcmL 1 bs * ti)) := (mul_r (by constructor <;> omega)).trans (by rw [show ((lcmL 1 bs : Nat) : Int) * ((ti : Nat) : Int) = ((lcmL 1 bs * ti : Nat) : Int) by rw [Int.natCast_mul]]; rfl)
  refine ⟨he, bsD bs, ?_, k5⟩
  unfold lb1_law
  refine s_setM (d := bsD bs) (e1 := [.none, ha, b, t, .none, .none, .none, .none, .none, .none, .none, .none, .none, .none, .none]) (mio_ok (mcons_ok (mQ_ok rfl) (mnil_ok _)) a1) ?_
  show sSeq _ _ [.none, ha, bsD bs, t, .none, .none, .none, .none, .none, .none, .none, .none, .none, .none, .none] = _
  refine s_asgM (d := .tuple [nI (lcmL 1 bs), nI ti]) (e1 := [.none, hb, bsD bs, t, .none, .none, .none, .none, .none, .none, .none, .none, .none, .none, .none]) (mtup_ok (mcons_ok (mQ_ok (qF1 rfl (lround_ok H.ok))) (mcons_ok (mio_ok (mcons_ok (mQ_ok (show _ = VL.R.ok (PyData.list (nL T5)) from rfl)) (mnil_ok _)) a2) (mnil_ok _)))) rfl ?_
  show sSeq _ _ (E15 hb bs t (lcmL 1 bs) ti .none) = _
  refine s_ifMf (e1 := E15 hc bs t (lcmL 1 bs) ti .none) ((mOr_f (mQ_ok (qT_ok (q2_ok (qF1 rfl (rob_ok H h1)) rfl (ne_N _))))).trans (mNot_ok (b := true) (mT_ok (mio_ok (mcons_ok (mQ_ok rfl) (mnil_ok _)) a3)))) (s_nx ?_)
  refine s_for (iOf_ok (ds := [.int 4]) rfl (rg1_ok (by decide) (by decide))) lp ?_
  unfold E15
  refine s_setM (d := nI r) (e1 := E15 he bs t (lcmL 1 bs) ti .none) (mio_ok (mcons_ok (mQ_ok rfl) (mnil_ok _)) a5) ?_
  show sSeq _ _ [.none, he, bsD bs, t, nI (lcmL 1 bs), nI ti, .none, .none, .none, .none, nI r, .none, .none, .none, .none] = _
  refine s_par2 (d1 := .list (nL (cts bs r))) (d2 := .list (nL (cts bs (lcmL 1 bs)))) (qF2 rfl rfl (counts_ok H (by omega))) (qF2 rfl rfl (counts_ok H (by omega))) ?_
  show sSeq _ _ [.none, he, bsD bs, t, nI (lcmL 1 bs), nI ti, .none, .none, .none, .none, nI r, .list (nL (cts bs r)), .list (nL (cts bs (lcmL 1 bs))), .none, .none] = _
  refine s_iffN (qT_ok (q2_ok (qF2 rfl rfl (told_ok H h1 r18)) rfl (ne_L _))) ?_
  have zp : qLC (iOf zipO (lcons (qv 11) (lcons (qv 12) lnil))) [13, 14] (gT2 13 14) bYes (q2 addD (qv 13) (q2 mulD (qv 5) (qv 14))) [.none, he, bsD bs, t, nI (lcmL 1 bs), nI ti, .none, .none, .none, .none, nI r, .list (nL (cts bs r)), .list (nL (cts bs (lcmL 1 bs))), .none, .none] = .ok (.list (nL (cts bs (lcmL 1 bs * ti + r)))) := by
    have it : iOf zipO (lcons (qv 11) (lcons (qv 12) lnil)) [.none, he, bsD bs, t, nI (lcmL 1 bs), nI ti, .none, .none, .none, .none, nI r, .list (nL (cts bs r)), .list (nL (cts bs (lcmL 1 bs))), .none, .none] = .ok ((List.zip (cts bs r) (cts bs (lcmL 1 bs))).map prD) :=
      iOf_ok (lcons_ok (d := .list (nL (cts bs r))) rfl (lcons_ok (d := .list (nL (cts bs (lcmL 1 bs)))) rfl (lnil_ok _))) (zip_two _ _)
    refine (lc_typ prD (g := fun p => nI (p.1 + ti * p.2)) it fun p _ => ⟨_, rfl, q2_ok (x := nI p.1) (y := nI (ti * p.2)) rfl (q2_ok (x := nI ti) (y := nI p.2) rfl rfl (mul_NN (by omega) _)) (add_NN _ _)⟩).trans ?_
    rw [zw_nL, cts_rounds]
  refine s_iffN (qT_ok (q2_ok (qF2 (x := nI (lcmL 1 bs * ti + r)) rfl (q2_ok (x := nI (lcmL 1 bs * ti)) (y := nI r) (q2_ok (x := nI (lcmL 1 bs)) (y := nI ti) rfl rfl mu) rfl rfl) (told_ok H h1 t18)) zp (ne_L _))) ?_
  exact s_iffN (third ..) rfl
def K2 : Dt := .tuple [.tuple [.int 15, .int 0], .tuple [.int 20, .int 5]]
def K3 : Dt := .tuple [.tuple [.int 2, .int 0], .tuple [.int 3, .int 0]]
theorem plain_law : ∀ ns : List Int, ns.length ≤ 63 → m_law ns = .ok (.bool true) := by
  intro ns hl
  obtain ⟨h, e0, k0⟩ := hand_made ns
  have loop : ∀ (ds : List Dt) (h b : Dt), HandOk h → ∃ h' b', forL (gN 3) lb1_law ds [.none, h, b, .none, .none, .none, .none, .none, .none, .none, .none, .none, .none, .none, .none] = .nx [.none, h', b', .none, .none, .none, .none, .none, .none, .none, .none, .none, .none, .none, .none] ∧ HandOk h' := by
    intro ds
    induction ds with
    | nil => exact fun h b k => ⟨h, b, rfl, k⟩
    | cons d ds ih =>
      intro h b k
      obtain ⟨h1, b1, e1, k1⟩ := law_turn k b d
      obtain ⟨h2, b2, e2, k2⟩ := ih h1 b1 k1
      exact ⟨h2, b2, for_cons (e1 := [.none, h, b, d, .none, .none, .none, .none, .none, .none, .none, .none, .none, .none, .none]) rfl e1 e2, k2⟩
  obtain ⟨h1, b1, e1, k1⟩ := loop (rangeD 0 3) h K2 k0
  refine fin_of (r := b_law ns (List.replicate 15 .none)) (e' := [.none, h1, b1, .none, .none, .none, .none, .none, .none, .none, .none, .none, .none, .none, .none]) ?_
  unfold b_law
  refine s_set (d := h) (by unfold qHand; rw [e0]) ?_
  refine s_set (d := K2) rfl ?_
  show sSeq _ _ [.none, h, K2, .none, .none, .none, .none, .none, .none, .none, .none, .none, .none, .none, .none] = _
  have t1 : m_next_ring [K2, .int 16] = .ok (.tuple [.int 25, .tuple [.int 1]]) := by kernel_rfl
  have t2 : m_together_count [K2, .int 45] = .ok (.int 0) := by kernel_rfl
  have t3 : m_together_count [K2, .int 46] = .ok (.int 1) := by kernel_rfl
  have t4 : m_ring_count [K3, .int 6] = .ok (.int 4) := by kernel_rfl
  have t5 : m_alone_count [K3, .int 0, .int 6] = .ok (.int 2) := by kernel_rfl
  refine s_iffN ((bOr_f (qT_ok (q2_ok (qF2 rfl rfl t1) rfl (by kernel_rfl)))).trans ((bOr_f (qT_ok (q2_ok (qF2 rfl rfl t2) rfl rfl))).trans (qT_ok (q2_ok (qF2 rfl rfl t3) rfl rfl)))) ?_
  refine s_iffN ((bOr_f (qT_ok (q2_ok (qF2 (w := K3) rfl rfl t4) rfl rfl))).trans (qT_ok (q2_ok (qF3 (w := K3) rfl rfl rfl t5) rfl rfl))) ?_
  exact s_for (ds := rangeD 0 3) (iOf_ok (ds := [.int 3]) rfl (rg1_ok (by decide) (by decide))) e1 (s_ret rfl)
end K42
namespace K42
open PySem PySem.Spec PyProof.Rows L2 VL
abbrev loose0 : List Str := ["is_integer", "is_within", "is_sized", "SchoolError", "NoBells", "NoFloor", "NoLengths", "NoMinute", "NoNumber", "TooMany", "MOST_FLOORS", "MOST_EVERY", "MOST_MINUTE", "is_bell", "check_bells", "check_minute", "raw_rings", "rings_at", "next_ring", "common_divisor", "raw_round", "round_of_bells", "never_meet", "strangers", "first_meeting", "count_together", "together_count", "bell_lots", "raw_count", "ring_count"]
abbrev loose1 : List Str := ["alone_count", "_law_hand", "_law_draw", "_law_any", "_law_bells", "_law_round", "_law_rings", "_law_bad_bells", "_law_word", "_law_counts", "_law_told", "_law_refused_right"]
abbrev loose : List Str := loose0 ++ loose1
abbrev Rw : PySem.W.OpenRow := PySem.W.OpenLaw.row PySem.Challenge.rw_schoolyear_k42_whole_bells_minute_by_min
abbrev hk : PySem.W.Hook := He.hookX 4 fa fn [] tf ex
def ob (s : PySem.W.SharedT) : He.AlX := He.obsX 4 fa fn [] tf ex (HandSHeadRun.getT s)
theorem ob_eq (s : PySem.W.SharedT) : ob s = hk.obs s.abs := He.obsX_eq (HandSHeadRun.getT_eq s)
theorem run (w : World) : HandSHeadRun.RunEq Rw (PySem.W.view Rw.prog [46]) hk ob 6000 loose w := by
  intro os
  kernel_rfl
theorem at_law {P : Program} {w : World} {K : Kf} {h : Heap} {mg : Str → Option Value} {fa0 : Addr} (KX : K.In h) (G : h.Ns mainGlobals mg) (hmg : mg ("law" : Str) = some (.ref fa0)) (c : He.SaysX fa fn [] tf ex w h K) (pl : ∀ ns : List Int, ns.length ≤ 63 → m_law ns = .ok (.bool true)) (l : PySem.W.OpenLaw) (hP : l.prog = P) : LawAtP GdT l w K 10 63 "script" mg fa0 h := by
  have F : Fx w K mg := ⟨h, KX, G, c.t, c.more⟩
  have e := hmg.symm.trans (g_law F)
  cases e
  obtain ⟨fd, D⟩ := f_law F
  have b := FunD.bindsA (ps := ["script"]) D fun _ _ _ _ _ _ us hl => match us, hl with | [_], _ => rfl
  refine ⟨fd, tf.map (He.cT K), spL K (tabsK K tf) m_law, ?_, ?_, ?_, fun s u => b s [u] rfl, fun H a ns hl _ hH hS => ⟨a, ns, rfl, hS, tabs_nil hH, ?_⟩, fun base hKb hns TB => ok_law F TB D⟩
  · intro p hp
    obtain ⟨d, hd, rfl⟩ := List.mem_map.mp hp
    exact c.empty d hd
  · intro p hp
    obtain ⟨d, hd, rfl⟩ := List.mem_map.mp hp
    exact c.out d hd
  · intro p hp
    obtain ⟨d, hd, rfl⟩ := List.mem_map.mp hp
    exact PySem.W.codeHd_of_K KX (c.hd d hd)
  · rw [pl ns hl]
    exact fun v H' r => by cases r; rfl
end K42
open PySem PySem.W PySem.Calls PyProof.Rows in
theorem PySem.Challenge.cw_schoolyear_k42_whole_bells_minute_by_min_holds : PySem.Challenge.rw_schoolyear_k42_whole_bells_minute_by_min.Holds := by
  w_on; o_law
  refine HandSHeadRun.head_any (r := OpenLaw.row PySem.Challenge.rw_schoolyear_k42_whole_bells_minute_by_min) (q := view (OpenLaw.row PySem.Challenge.rw_schoolyear_k42_whole_bells_minute_by_min).prog [46]) (H := K42.hk) (ob := K42.ob) (M := 6000) (loose := K42.loose) (d := HandSHeadRun.topDef (OpenLaw.row PySem.Challenge.rw_schoolyear_k42_whole_bells_minute_by_min).prog 46) (kwd := []) K42.ob_eq
    (by kernel_rfl) (fun s => by kernel_rfl) K42.run (by kernel_rfl) (by kernel_rfl) (by kernel_rfl) (by rfl) (by first | assumption | decide +kernel) (by decide +kernel) ⟨rfl, rfl, rfl, rfl, rfl, by decide +kernel⟩ ?hw ?hc
  case hw => w_witness2
  case hc =>
    refine VL.walk_ofP (Gd := VL.GdT) trivial (l := PySem.Challenge.rw_schoolyear_k42_whole_bells_minute_by_min) (n := 63) (k := 10) (x := "script") rfl (by decide) (by kernel_rfl) ⟨rfl, by decide, by decide⟩ ?F
    intro w mg fa h Y G hmg0
    obtain ⟨K, KX, c⟩ := Y
    have hmg : mg ("law" : PySem.Str) = some (.ref fa) := by
      have e : (HandSHeadRun.topDef (OpenLaw.row PySem.Challenge.rw_schoolyear_k42_whole_bells_minute_by_min).prog 46).name = ("law" : PySem.Str) := by kernel_rfl
      rw [← e]
      exact hmg0
    exact ⟨K, KX, K42.at_law KX G hmg c K42.plain_law _ rfl⟩
