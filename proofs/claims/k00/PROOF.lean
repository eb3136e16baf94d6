import PyProof.Rows.All
import Wide.All
import OpenK.AllK
import Wide.FinOn
import HandS.ForMost
import HandS.Exc
import HandS.ExcOwn
import HandS.ExcInit
import HandS.ExcField
import HandS.WordsExc
import HandS.Wide
import HandS.Style
import HandS.Flow
import HandS.FStr
import HandS.IsInst
import HandS.HotCalls
import HandS.ExcCtx
import HandS.Steps
import KE.KExcIs
import HandS.ExcInitHot
import HandS.Defaults
import HandS.Comp
import HandS.Iter
import PyProof.StrLoop
import PyProof.ReprRoads
import PyProof.StrLawsRepr
import KE.IntTextLaws
import PyProof.ReprLen
import HandS.Ends
import HandS.ListEq
import HandS.DeepEq
import PyProof.NeKinds
import HandS.Small
import HandS.DictComp
import PySem.Challenge.RW_maplost_k00_errors
set_option Elab.async false
set_option linter.all false
set_option maxRecDepth 100000
set_option maxHeartbeats 0
namespace DL
open PySem L2

/-- a datum: what a value means, apart from the heap; `cell k`: the k-th object that may change -/
inductive Dat where
  | non | bl (b : Bool) | int (i : Int) | str (x : Str)
  | lst (xs : List Dat) | tup (xs : List Dat) | rol (xs : List Dat)
  | dct (kvs : List (Key × Dat))
  | exc (C : Addr) (fs : List (Str × Dat))
  | hot (a dd C : Addr) (fs : List (Str × Dat))
  | cell (k : Nat)
  | ref (a : Addr) | ty (n : String)

structure Wd where
  ι : List Addr
  F : Hp

variable (K : PySem.W.Frag)

mutual
inductive Rep (W : Wd) : V → Dat → Prop
  | non : Rep W .non .non
  | bl (b : Bool) : Rep W (.bl b) (.bl b)
  | int (i : Int) : Rep W (.int i) (.int i)
  | str (x : Str) : Rep W (.str x) (.str x)
  | ref (a : Addr) : Rep W (.ref a) (.ref a)
  | ty (n : String) : Rep W (.ty n) (.ty n)
  | lst {a : Addr} {xs : List V} {ds : List Dat} : W.F a = some (.lst xs) → RepL W xs ds → Rep W (.ref a) (.lst ds)
  | tup {a : Addr} {xs : List V} {ds : List Dat} : SqT K W.F a xs → RepL W xs ds → Rep W (.ref a) (.tup ds)
  | rol {a : Addr} {xs : List V} {ds : List Dat} : SqL K W.F a xs → RepL W xs ds → Rep W (.ref a) (.rol ds)
  | dct {a : Addr} {xs : List (Key × V)} {ds : List (Key × Dat)} : W.F a = some (.dK xs) → RepK W xs ds → Rep W (.ref a) (.dct ds)
  | exc {a C dx : Addr} {fs : List (Str × V)} {ds : List (Str × Dat)} : W.F a = some (exo a C (some dx)) → W.F dx = some (exd dx fs) → RepF W fs ds → Rep W (.ref a) (.exc C ds)
  | hot {a dd C : Addr} {fs : List (Str × V)} {ds : List (Str × Dat)} : W.F dd = some (.xd fs) → RepF W fs ds → Rep W (.ref a) (.hot a dd C ds)
  | cell {a : Addr} {k : Nat} : W.ι[k]? = some a → Rep W (.ref a) (.cell k)
inductive RepL (W : Wd) : List V → List Dat → Prop
  | nil : RepL W [] []
  | cons {v : V} {d : Dat} {vs : List V} {ds : List Dat} : Rep W v d → RepL W vs ds → RepL W (v :: vs) (d :: ds)
inductive RepF (W : Wd) : List (Str × V) → List (Str × Dat) → Prop
  | nil : RepF W [] []
  | cons {f : Str} {v : V} {d : Dat} {vs : List (Str × V)} {ds : List (Str × Dat)} : Rep W v d → RepF W vs ds → RepF W ((f, v) :: vs) ((f, d) :: ds)
inductive RepK (W : Wd) : List (Key × V) → List (Key × Dat) → Prop
  | nil : RepK W [] []
  | cons {f : Key} {v : V} {d : Dat} {vs : List (Key × V)} {ds : List (Key × Dat)} : Rep W v d → RepK W vs ds → RepK W ((f, v) :: vs) ((f, d) :: ds)
end

structure Le (W W' : Wd) : Prop where
  i : W.ι <+: W'.ι
  f : Same W.F W'.F
theorem Le.refl (W : Wd) : Le W W := ⟨List.prefix_rfl, Same.refl _⟩
theorem Le.trans {A B C : Wd} (a : Le A B) (b : Le B C) : Le A C := ⟨a.i.trans b.i, a.f.trans b.f⟩
theorem pre_get {α : Type} {l m : List α} {k : Nat} {a : α} (h : l <+: m) (e : l[k]? = some a) : m[k]? = some a := by
  obtain ⟨t, rfl⟩ := h
  have hk : k < l.length := (List.getElem?_eq_some_iff.mp e).1
  rw [List.getElem?_append_left hk]
  exact e
theorem Same.tup {K : PySem.W.Frag} {H H' : Hp} {a : Addr} {xs : List V} (e : Same H H') (h : SqT K H a xs) : SqT K H' a xs := by
  rcases h with (h | ⟨o, h⟩) | h
  · exact .inl (.inl (e _ _ h))
  · exact .inl (.inr ⟨o, e _ _ h⟩)
  · exact .inr h

variable {K}
mutual
theorem Rep.mono {W W' : Wd} (l : Le W W') : ∀ (d : Dat) (v : V), Rep K W v d → Rep K W' v d
  | .non, _, h => by cases h; exact .non
  | .bl b, _, h => by cases h; exact .bl b
  | .int b, _, h => by cases h; exact .int b
  | .str b, _, h => by cases h; exact .str b
  | .ref b, _, h => by cases h; exact .ref b
  | .ty b, _, h => by cases h; exact .ty b
  | .cell k, _, h => by cases h with | cell e => exact .cell (pre_get l.i e)
  | .lst ds, _, h => by cases h with | lst e r => exact .lst (l.f _ _ e) (RepL.mono l ds _ r)
  | .tup ds, _, h => by cases h with | tup e r => exact .tup (Same.tup l.f e) (RepL.mono l ds _ r)
  | .rol ds, _, h => by cases h with | rol e r => exact .rol (l.f.seq e) (RepL.mono l ds _ r)
  | .dct ds, _, h => by cases h with | dct e r => exact .dct (l.f _ _ e) (RepK.mono l ds _ r)
  | .exc C ds, _, h => by cases h with | exc e e' r => exact .exc (l.f _ _ e) (l.f _ _ e') (RepF.mono l ds _ r)
  | .hot a dd C ds, _, h => by cases h with | hot e r => exact .hot (l.f _ _ e) (RepF.mono l ds _ r)
theorem RepL.mono {W W' : Wd} (l : Le W W') : ∀ (ds : List Dat) (vs : List V), RepL K W vs ds → RepL K W' vs ds
  | [], _, h => by cases h; exact .nil
  | d :: ds, _, h => by cases h with | cons a b => exact .cons (Rep.mono l d _ a) (RepL.mono l ds _ b)
theorem RepF.mono {W W' : Wd} (l : Le W W') : ∀ (ds : List (Str × Dat)) (vs : List (Str × V)), RepF K W vs ds → RepF K W' vs ds
  | [], _, h => by cases h; exact .nil
  | (f, d) :: ds, _, h => by cases h with | cons a b => exact .cons (Rep.mono l d _ a) (RepF.mono l ds _ b)
theorem RepK.mono {W W' : Wd} (l : Le W W') : ∀ (ds : List (Key × Dat)) (vs : List (Key × V)), RepK K W vs ds → RepK K W' vs ds
  | [], _, h => by cases h; exact .nil
  | (f, d) :: ds, _, h => by cases h with | cons a b => exact .cons (Rep.mono l d _ a) (RepK.mono l ds _ b)
end

/-! ### objects that may change -/
inductive MO where
  | lst (xs : List Dat)
  | dct (kvs : List (Key × Dat))
  | ins (C : Addr) (fs : List (Str × Dat))
abbrev Ms := List MO
abbrev Ev := List (Option Dat)
variable (K)
def MoOk (W : Wd) (H : Hp) (a : Addr) : MO → Prop
  | .lst ds => ∃ xs, H a = some (.lst xs) ∧ RepL K W xs ds
  | .dct ds => ∃ xs, H a = some (.dK xs) ∧ RepK K W xs ds
  | .ins C ds => ∃ dx fs, H a = some (.ins C dx fs) ∧ RepF K W fs ds
structure Good (W : Wd) (G H : Hp) (ms : Ms) : Prop where
  fz : Same W.F H
  gd : Same G H
  ln : W.ι.length = ms.length
  nd : W.ι.Nodup
  nF : ∀ a ∈ W.ι, W.F a = none
  nG : ∀ a ∈ W.ι, G a = none
  gF : ∀ a o, G a = some o → W.F a = none
  cl : ∀ (k : Nat) a m, W.ι[k]? = some a → ms[k]? = some m → MoOk K W H a m
def Slots (W : Wd) (σ : St) (e : Ev) : Prop := σ.length = e.length ∧ ∀ (i : Nat) d, e[i]? = some (some d) → ∃ v, σ[i]? = some (some v) ∧ Rep K W v d
variable {K}
variable {W W' : Wd} {G G' H H' : Hp} {ms : Ms} {σ : St} {e : Ev} {p : Addr} {o : HO}
theorem MoOk.mono (l : Le W W') {a : Addr} (h : ∀ u, H a = some u → H' a = some u) : ∀ {m : MO}, MoOk K W H a m → MoOk K W' H' a m
  | .lst ds, ⟨xs, e, r⟩ => ⟨xs, h _ e, RepL.mono l _ _ r⟩
  | .dct ds, ⟨xs, e, r⟩ => ⟨xs, h _ e, RepK.mono l _ _ r⟩
  | .ins C ds, ⟨dx, fs, e, r⟩ => ⟨dx, fs, h _ e, RepF.mono l _ _ r⟩
theorem MoOk.there {a : Addr} : ∀ {m : MO}, MoOk K W H a m → ∃ u, H a = some u
  | .lst ds, ⟨xs, e, r⟩ => ⟨_, e⟩
  | .dct ds, ⟨xs, e, r⟩ => ⟨_, e⟩
  | .ins C ds, ⟨dx, fs, e, r⟩ => ⟨_, e⟩
theorem Slots.mono (l : Le W W') (s : Slots K W σ e) : Slots K W' σ e := ⟨s.1, fun i d h => by
  obtain ⟨v, h1, h2⟩ := s.2 i d h
  exact ⟨v, h1, Rep.mono l _ _ h2⟩⟩
theorem Slots.set (s : Slots K W σ e) {v : V} {d : Dat} (r : Rep K W v d) (i : Nat) : Slots K W (σ.set i (some v)) (e.set i (some d)) := by
  refine ⟨by rw [List.length_set, List.length_set]; exact s.1, fun j x h => ?_⟩
  by_cases hj : i = j
  · subst hj
    by_cases hl : i < e.length
    · rw [List.getElem?_set_self hl] at h
      cases h
      exact ⟨v, List.getElem?_set_self (by rw [s.1]; exact hl), r⟩
    · rw [List.getElem?_eq_none (by rw [List.length_set]; omega)] at h
      cases h
  · rw [List.getElem?_set_ne hj] at h ⊢
    exact s.2 j x h
theorem Good.has (g : Good K W G H ms) {a : Addr} (h : a ∈ W.ι) : ∃ u, H a = some u := by
  obtain ⟨k, hk, e⟩ := List.getElem_of_mem h
  have hm : k < ms.length := by rw [← g.ln]; exact hk
  exact (g.cl k a ms[k] (by rw [List.getElem?_eq_getElem hk, e]) (List.getElem?_eq_getElem hm)).there
theorem Good.neI (g : Good K W G H ms) (n : H p = none) : p ∉ W.ι := fun h => by
  obtain ⟨u, e⟩ := g.has h
  rw [n] at e; cases e
theorem same_new {H : Hp} {p : Addr} {o : HO} (n : H p = none) : Same H (upd H p o) := fun b u e => by
  rw [upd_ne (ne_of_none e n)]
  exact e
theorem same_upd {F H : Hp} {p : Addr} {o : HO} (s : Same F H) : Same (upd F p o) (upd H p o) := fun b u e => by
  by_cases hb : b = p
  · subst hb; rw [upd_same] at e ⊢; exact e
  · rw [upd_ne hb] at e ⊢; exact s b u e
/-- a new datum is laid -/
theorem Good.laid (g : Good K W G H ms) (n : H p = none) : Good K ⟨W.ι, upd W.F p o⟩ G (upd H p o) ms ∧ Le W ⟨W.ι, upd W.F p o⟩ := by
  have nf : W.F p = none := g.fz.free n
  have l : Le W ⟨W.ι, upd W.F p o⟩ := ⟨List.prefix_rfl, same_new nf⟩
  refine ⟨⟨same_upd g.fz, g.gd.trans (same_new n), g.ln, g.nd, fun a h => ?_, g.nG, fun a u h => ?_, fun k a m h1 h2 => (g.cl k a m h1 h2).mono l fun u e => same_new n a u e⟩, l⟩
  · show upd W.F p o a = none
    rw [upd_ne (show a ≠ p from fun z => g.neI n (by rw [← z]; exact h))]
    exact g.nF a h
  · show upd W.F p o a = none
    rw [upd_ne (ne_of_none (g.gd a u h) n)]
    exact g.gF a u h
/-- a new object that may change -/
theorem Good.newC (g : Good K W G H ms) (n : H p = none) {m : MO} (hm : MoOk K ⟨W.ι ++ [p], W.F⟩ (upd H p o) p m) : Good K ⟨W.ι ++ [p], W.F⟩ G (upd H p o) (ms ++ [m]) ∧ Le W ⟨W.ι ++ [p], W.F⟩ := by
  have l : Le W ⟨W.ι ++ [p], W.F⟩ := ⟨List.prefix_append _ _, Same.refl _⟩
  refine ⟨⟨g.fz.trans (same_new n), g.gd.trans (same_new n), by simp [g.ln], ?_, fun a h => ?_, fun a h => ?_, g.gF, fun k a m' h1 h2 => ?_⟩, l⟩
  · show (W.ι ++ [p]).Nodup
    refine List.nodup_append.mpr ⟨g.nd, by simp, fun a ha b hb z => ?_⟩
    have : b = p := by simpa using hb
    subst this; subst z
    exact g.neI n ha
  · rcases List.mem_append.mp (show a ∈ W.ι ++ [p] from h) with h | h
    · exact g.nF a h
    · have : a = p := by simpa using h
      subst this
      exact g.fz.free n
  · rcases List.mem_append.mp (show a ∈ W.ι ++ [p] from h) with h | h
    · exact g.nG a h
    · have : a = p := by simpa using h
      subst this
      exact g.gd.free n
  · by_cases hk : k < W.ι.length
    · have h1' : W.ι[k]? = some a := by rw [← h1]; exact (List.getElem?_append_left hk).symm
      have h2' : ms[k]? = some m' := by rw [← h2]; exact (List.getElem?_append_left (by rw [← g.ln]; exact hk)).symm
      exact (g.cl k a m' h1' h2').mono l fun u e => same_new n a u e
    · have e1 : (W.ι ++ [p])[k]? = some a := h1
      rw [List.getElem?_append_right (by omega)] at e1
      rw [List.getElem?_append_right (by rw [← g.ln]; omega), ← g.ln] at h2
      have hk0 : k - W.ι.length = 0 := by
        cases q : k - W.ι.length with
        | zero => rfl
        | succ j => rw [q] at e1; simp at e1
      rw [hk0] at e1 h2
      cases e1; cases h2
      exact hm
/-- an object changes -/
theorem Good.setC (g : Good K W G H ms) {k : Nat} {a : Addr} (h : W.ι[k]? = some a) {m : MO} (hm : MoOk K W (upd H a o) a m) : Good K W G (upd H a o) (ms.set k m) := by
  have ha : a ∈ W.ι := List.mem_of_getElem? h
  refine ⟨fun b u e => ?_, fun b u e => ?_, by rw [List.length_set]; exact g.ln, g.nd, g.nF, g.nG, g.gF, fun j b m' h1 h2 => ?_⟩
  · rw [upd_ne (ne_of_none e (g.nF a ha))]; exact g.fz b u e
  · rw [upd_ne (ne_of_none e (g.nG a ha))]; exact g.gd b u e
  · have hk : k < W.ι.length := (List.getElem?_eq_some_iff.mp h).1
    by_cases hj : k = j
    · subst hj
      rw [h] at h1; cases h1
      rw [List.getElem?_set_self (by rw [← g.ln]; exact hk)] at h2
      cases h2
      exact hm
    · rw [List.getElem?_set_ne hj] at h2
      refine (g.cl j b m' h1 h2).mono (Le.refl W) fun u e => ?_
      have hjl : j < W.ι.length := (List.getElem?_eq_some_iff.mp h1).1
      rw [upd_ne]
      · exact e
      · rintro rfl
        have e1 : W.ι[k]'hk = W.ι[j]'hjl := by
          rw [List.getElem?_eq_getElem hk] at h
          rw [List.getElem?_eq_getElem hjl] at h1
          exact (Option.some.inj h).trans (Option.some.inj h1).symm
        exact hj ((List.getElem_inj g.nd).mp e1)
/-- fewer objects of others are told -/
theorem Good.weakG (g : Good K W G H ms) (s : Same G' G) : Good K W G' H ms :=
  ⟨g.fz, s.trans g.gd, g.ln, g.nd, g.nF, fun a h => s.free (g.nG a h), fun a o e => g.gF a o (s a o e), g.cl⟩
/-- an object of ours is laid aside while others work -/
theorem Good.hold (g : Good K W G H ms) (n : H p = none) : Good K W (upd G p o) (upd H p o) ms := by
  have nf : W.F p = none := g.fz.free n
  refine ⟨g.fz.trans (same_new n), same_upd g.gd, g.ln, g.nd, g.nF, fun a h => ?_, fun a u e => ?_, fun k a m h1 h2 => (g.cl k a m h1 h2).mono (Le.refl W) fun u e => same_new n a u e⟩
  · rw [upd_ne (show a ≠ p from fun z => g.neI n (by rw [← z]; exact h))]
    exact g.nG a h
  · by_cases hb : a = p
    · rw [hb]; exact nf
    · rw [upd_ne hb] at e
      exact g.gF a u e
/-- it is changed -/
theorem Good.held (g : Good K W (upd G p o) H ms) (u : HO) : Good K W (upd G p u) (upd H p u) ms := by
  have nf : W.F p = none := g.gF p o upd_same
  have np : p ∉ W.ι := fun h => by
    have := g.nG p h
    rw [upd_same] at this; cases this
  refine ⟨fun b v e => ?_, fun b v e => ?_, g.ln, g.nd, g.nF, fun a h => ?_, fun a v e => ?_, fun k a m h1 h2 => (g.cl k a m h1 h2).mono (Le.refl W) fun v e => ?_⟩
  · rw [upd_ne (ne_of_none e nf)]; exact g.fz b v e
  · by_cases hb : b = p
    · subst hb; rw [upd_same] at e ⊢; exact e
    · rw [upd_ne hb] at e ⊢
      exact g.gd b v (by rw [upd_ne hb]; exact e)
  · have ne : a ≠ p := fun z => np (z ▸ h)
    have := g.nG a h
    rw [upd_ne ne] at this ⊢
    exact this
  · by_cases hb : a = p
    · rw [hb]; exact nf
    · rw [upd_ne hb] at e
      exact g.gF a v (by rw [upd_ne hb]; exact e)
  · have ne : a ≠ p := fun z => np (z ▸ List.mem_of_getElem? h1)
    rw [upd_ne ne]; exact e
/-- .. and becomes a datum -/
theorem Good.frozen (g : Good K W (upd G p o) H ms) (n : G p = none) : Good K ⟨W.ι, upd W.F p o⟩ G H ms ∧ Le W ⟨W.ι, upd W.F p o⟩ := by
  have nf : W.F p = none := g.gF p o upd_same
  have np : p ∉ W.ι := fun h => by
    have := g.nG p h
    rw [upd_same] at this; cases this
  have l : Le W ⟨W.ι, upd W.F p o⟩ := ⟨List.prefix_rfl, same_new nf⟩
  refine ⟨⟨fun b v e => ?_, (same_new n).trans g.gd, g.ln, g.nd, fun a h => ?_, fun a h => ?_, fun a v e => ?_, fun k a m h1 h2 => (g.cl k a m h1 h2).mono l fun v e => e⟩, l⟩
  · by_cases hb : b = p
    · subst hb
      have e' : some o = some v := by
        have q : upd W.F b o b = some v := e
        rw [upd_same] at q; exact q
      cases e'
      exact g.gd b o upd_same
    · have q : upd W.F p o b = some v := e
      rw [upd_ne hb] at q
      exact g.fz b v q
  · have ne : a ≠ p := fun z => np (z ▸ h)
    show upd W.F p o a = none
    rw [upd_ne ne]; exact g.nF a h
  · have ne : a ≠ p := fun z => np (z ▸ h)
    have := g.nG a h
    rw [upd_ne ne] at this
    exact this
  · have ne : a ≠ p := ne_of_none e n
    show upd W.F p o a = none
    rw [upd_ne ne]
    exact g.gF a v (by rw [upd_ne ne]; exact e)

/-! ### judgements -/
abbrev XP := Addr → List (Str × Dat) → Ms → Prop
abbrev XE := Addr → List (Str × Dat) → Ev → Ms → Prop
variable (K)
def ExC (W : Wd) (G : Hp) (X : XP) (R : Value → Option Addr → Hp → Prop) : Prop :=
  ∀ (W' : Wd) (C d : Addr) (fs : List (Str × V)) (ds : List (Str × Dat)) (H' : Hp) (ms' : Ms), Le W W' → Good K W' G H' ms' → W'.F d = some (.xd fs) → RepF K W' fs ds → X C ds ms' → R (.ref C) (some d) H'
def RtC (W : Wd) (G : Hp) (P : Dat → Ms → Prop) (Q : VK) : Prop := ∀ (W' : Wd) (v : V) (d : Dat) (H' : Hp) (ms' : Ms), Le W W' → Good K W' G H' ms' → Rep K W' v d → P d ms' → Q v H'
def RaC (W : Wd) (G : Hp) (P : List Dat → Ms → Prop) (Q : List V → Hp → Prop) : Prop := ∀ (W' : Wd) (v : List V) (d : List Dat) (H' : Hp) (ms' : Ms), Le W W' → Good K W' G H' ms' → RepL K W' v d → P d ms' → Q v H'
def TtC (W : Wd) (G : Hp) (P : Bool → Ms → Prop) (Q : Bool → Hp → Prop) : Prop := ∀ (W' : Wd) (b : Bool) (H' : Hp) (ms' : Ms), Le W W' → Good K W' G H' ms' → P b ms' → Q b H'
def NxC (W : Wd) (G : Hp) (P : Ev → Ms → Prop) (Q : St → Hp → Prop) : Prop := ∀ (W' : Wd) (σ' : St) (e' : Ev) (H' : Hp) (ms' : Ms), Le W W' → Good K W' G H' ms' → Slots K W' σ' e' → P e' ms' → Q σ' H'
def XeC (W : Wd) (G : Hp) (X : XE) (R : WX) : Prop :=
  ∀ (W' : Wd) (σ' : St) (e' : Ev) (C d : Addr) (fs : List (Str × V)) (ds : List (Str × Dat)) (H' : Hp) (ms' : Ms), Le W W' → Good K W' G H' ms' → Slots K W' σ' e' → W'.F d = some (.xd fs) → RepF K W' fs ds → X C ds e' ms' → R (.ref C) (some d) σ' H'
/-- an expression -/
def DE (R : WX) (t : TE) (e : Ev) (ms : Ms) (P : Dat → Ms → Prop) (X : XP) : Prop :=
  ∀ (W : Wd) (G : Hp) (σ : St) (H : Hp) (Q : VK), Good K W G H ms → Slots K W σ e → RtC K W G P Q → ExC K W G X (fun c d H' => R c d σ H') → t σ H Q
/-- arguments -/
def DA (R : WX) (t : TA) (e : Ev) (ms : Ms) (P : List Dat → Ms → Prop) (X : XP) : Prop :=
  ∀ (W : Wd) (G : Hp) (σ : St) (H : Hp) (Q : List V → Hp → Prop), Good K W G H ms → Slots K W σ e → RaC K W G P Q → ExC K W G X (fun c d H' => R c d σ H') → t σ H Q
/-- a test -/
def DT (R : WX) (t : TT) (e : Ev) (ms : Ms) (P : Bool → Ms → Prop) (X : XP) : Prop :=
  ∀ (W : Wd) (G : Hp) (σ : St) (H : Hp) (Q : Bool → Hp → Prop), Good K W G H ms → Slots K W σ e → TtC K W G P Q → ExC K W G X (fun c d H' => R c d σ H') → t σ H Q
structure Out where
  nx : Ev → Ms → Prop
  rt : Dat → Ms → Prop := fun _ _ => False
  bk : Ev → Ms → Prop := fun _ _ => False
  ct : Ev → Ms → Prop := fun _ _ => False
  ex : XE := fun _ _ _ _ => False
structure Fits (W : Wd) (G : Hp) (R : WX) (O : Out) (D : Ends) : Prop where
  nx : NxC K W G O.nx D.nx
  rt : RtC K W G O.rt D.rt
  bk : NxC K W G O.bk D.bk
  ct : NxC K W G O.ct D.ct
  ex : XeC K W G O.ex R
/-- a statement, a block -/
def DS (R : WX) (t : TS) (e : Ev) (ms : Ms) (O : Out) : Prop :=
  ∀ (W : Wd) (G : Hp) (σ : St) (H : Hp) (D : Ends), Good K W G H ms → Slots K W σ e → Fits K W G R O D → t D σ H
/-- a target -/
def DG (g : TG) (d : Dat) (e : Ev) (ms : Ms) (vs : List Nat) (P : Ev → Ms → Prop) : Prop :=
  ∀ (W : Wd) (G : Hp) (σ : St) (H : Hp) (v : V) (Q : St → Hp → Prop), Good K W G H ms → Slots K W σ e → Rep K W v d →
    (∀ (W' : Wd) (σ' : St) (e' : Ev) (H' : Hp) (ms' : Ms), Le W W' → Good K W' G H' ms' → Slots K W' σ' e' → (σ'.length = σ.length ∧ ∀ i, i ∉ vs → σ'[i]? = σ[i]?) → P e' ms' → Q σ' H') → g v σ H Q
/-- values to a value -/
def DR (r : List V → Hp → VK → Prop) (ds : List Dat) (ms : Ms) (P : Dat → Ms → Prop) : Prop :=
  ∀ (W : Wd) (G H : Hp) (vs : List V) (Q : VK), Good K W G H ms → RepL K W vs ds → RtC K W G P Q → r vs H Q
variable {K}
variable {P : Dat → Ms → Prop} {X : XP} {R : WX}
theorem ExC.le {R : Value → Option Addr → Hp → Prop} (l : Le W W') (h : ExC K W G X R) : ExC K W' G X R := fun W2 C d fs ds H' ms' l' => h W2 C d fs ds H' ms' (l.trans l')
theorem RtC.le {Q : VK} (l : Le W W') (h : RtC K W G P Q) : RtC K W' G P Q := fun W2 v d H' ms' l' => h W2 v d H' ms' (l.trans l')
theorem RaC.le {P : List Dat → Ms → Prop} {Q : List V → Hp → Prop} (l : Le W W') (h : RaC K W G P Q) : RaC K W' G P Q := fun W2 v d H' ms' l' => h W2 v d H' ms' (l.trans l')
theorem TtC.le {P : Bool → Ms → Prop} {Q : Bool → Hp → Prop} (l : Le W W') (h : TtC K W G P Q) : TtC K W' G P Q := fun W2 v H' ms' l' => h W2 v H' ms' (l.trans l')
theorem NxC.le {P : Ev → Ms → Prop} {Q : St → Hp → Prop} (l : Le W W') (h : NxC K W G P Q) : NxC K W' G P Q := fun W2 σ' e' H' ms' l' => h W2 σ' e' H' ms' (l.trans l')
theorem XeC.le {X : XE} (l : Le W W') (h : XeC K W G X R) : XeC K W' G X R := fun W2 σ' e' C d fs ds H' ms' l' => h W2 σ' e' C d fs ds H' ms' (l.trans l')
theorem XeC.at {X : XE} (s : Slots K W σ e) (h : XeC K W G X R) : ExC K W G (fun C ds ms' => X C ds e ms') (fun c d H' => R c d σ H') := fun W2 C d fs ds H' ms' l g f r x => h W2 σ e C d fs ds H' ms' l g (s.mono l) f r x
theorem Fits.le {O : Out} {D : Ends} (l : Le W W') (h : Fits K W G R O D) : Fits K W' G R O D := ⟨h.nx.le l, h.rt.le l, h.bk.le l, h.ct.le l, h.ex.le l⟩
end DL
namespace DL
open PySem L2
section
variable {K : PySem.W.Frag} {R : WX} {e : Ev} {ms : Ms} {X : XP} {ta tb tc : TE} {tA tr : TA} {tt tu : TT} {P : Dat → Ms → Prop} {d x y : Dat} {i : Nat} {PB : Bool → Ms → Prop}
/-! ### values -/
theorem de_var (h : e[i]? = some (some d)) (q : P d ms) : DE K R (tVar i) e ms P X := fun W G σ H Q g s k _ => by
  obtain ⟨v, h1, r⟩ := s.2 i d h
  exact ⟨v, h1, k W v d H ms (Le.refl W) g r q⟩
theorem de_val {v : V} (r : ∀ W : Wd, Rep K W v d) (q : P d ms) : DE K R (tC v) e ms P X := fun W _ _ H _ g _ k _ => k W v d H ms (Le.refl W) g (r W) q
theorem de_int {z : Int} (q : P (.int z) ms) : DE K R (tC (.int z)) e ms P X := de_val (fun _ => .int z) q
theorem de_bl {b : Bool} (q : P (.bl b) ms) : DE K R (tC (.bl b)) e ms P X := de_val (fun _ => .bl b) q
theorem de_non (q : P .non ms) : DE K R (tC .non) e ms P X := de_val (fun _ => .non) q
theorem de_str {z : Str} (q : P (.str z) ms) : DE K R (tC (.str z)) e ms P X := de_val (fun _ => .str z) q
theorem de_ref {a : Addr} (q : P (.ref a) ms) : DE K R (tC (.ref a)) e ms P X := de_val (fun _ => .ref a) q
theorem de_ty {n : String} (q : P (.ty n) ms) : DE K R (tC (.ty n)) e ms P X := de_val (fun _ => .ty n) q
/-- weaken -/
theorem DE.mono {P' : Dat → Ms → Prop} {t : TE} (h : DE K R t e ms P X) (q : ∀ d m, P d m → P' d m) : DE K R t e ms P' X := fun W G σ H Q g s k x =>
  h W G σ H Q g s (fun W' v d H' ms' l g' r p => k W' v d H' ms' l g' r (q d ms' p)) x
/-- a two-place operation on values -/
def D2 (K : PySem.W.Frag) (r : R2) (x y : Dat) (ms : Ms) (P : Dat → Ms → Prop) : Prop :=
  ∀ (W : Wd) (G H : Hp) (v w : V) (Q : VK), Good K W G H ms → Rep K W v x → Rep K W w y → RtC K W G P Q → r v w H Q
def D1 (K : PySem.W.Frag) (r : V → Hp → VK → Prop) (x : Dat) (ms : Ms) (P : Dat → Ms → Prop) : Prop :=
  ∀ (W : Wd) (G H : Hp) (v : V) (Q : VK), Good K W G H ms → Rep K W v x → RtC K W G P Q → r v H Q
theorem de_op {r : R2} (h : DE K R ta e ms (fun x m => DE K R tb e m (fun y m' => D2 K r x y m' P) X) X) : DE K R (tOp r ta tb) e ms P X := fun W G σ H Q g s k x => by
  refine h W G σ H _ g s (fun W1 v d H1 m1 l1 g1 r1 h1 => ?_) x
  refine h1 W1 G σ H1 _ g1 (s.mono l1) (fun W2 w d' H2 m2 l2 g2 r2 h2 => ?_) (x.le l1)
  exact h2 W2 G H2 v w Q g2 (Rep.mono l2 _ _ r1) r2 (k.le (l1.trans l2))
theorem de_un {r : V → Hp → VK → Prop} (h : DE K R ta e ms (fun x m => D1 K r x m P) X) : DE K R (tUn r ta) e ms P X := fun W G σ H Q g s k x =>
  h W G σ H _ g s (fun W1 v d H1 m1 l1 g1 r1 h1 => h1 W1 G H1 v Q g1 r1 (k.le l1)) x
/-! ### arguments, displays -/
theorem da_nil {P : List Dat → Ms → Prop} (q : P [] ms) : DA K R tNil e ms P X := fun W _ _ H _ g _ k _ => k W [] [] H ms (Le.refl W) g .nil q
theorem da_cons {P : List Dat → Ms → Prop} (h : DE K R ta e ms (fun x m => DA K R tr e m (fun ys m' => P (x :: ys) m') X) X) : DA K R (tCons ta tr) e ms P X := fun W G σ H Q g s k x => by
  refine h W G σ H _ g s (fun W1 v d H1 m1 l1 g1 r1 h1 => ?_) x
  refine h1 W1 G σ H1 _ g1 (s.mono l1) (fun W2 w d' H2 m2 l2 g2 r2 h2 => ?_) (x.le l1)
  exact k W2 _ _ H2 m2 (l1.trans l2) g2 (.cons (Rep.mono l2 _ _ r1) r2) h2
theorem RepL.length {W : Wd} : ∀ {vs : List V} {ds : List Dat}, RepL K W vs ds → vs.length = ds.length
  | _, [], h => by cases h; rfl
  | _, d :: ds, h => by cases h with | cons a b => simp [RepL.length b]
theorem size_of {n : Nat} (h : n ≤ 1000000) : n ≤ sizeLine := Nat.le_trans h (by decide)
theorem de_tup (h : DA K R tA e ms (fun ds m => ds.length ≤ 1000000 ∧ P (.tup ds) m) X) : DE K R (tTup tA) e ms P X := fun W G σ H Q g s k x => by
  refine h W G σ H _ g s (fun W1 vs ds H1 m1 l1 g1 r1 h1 => ⟨by rw [r1.length]; exact size_of h1.1, fun p hp => ?_⟩) x
  obtain ⟨g2, l2⟩ := g1.laid (o := .tup vs) hp
  exact k _ _ _ _ _ (l1.trans l2) g2 (.tup (.inl (.inl upd_same)) (RepL.mono l2 _ _ r1)) h1.2
theorem de_lst (h : DA K R tA e ms (fun ds m => ds.length ≤ 1000000 ∧ P (.lst ds) m) X) : DE K R (tLst tA) e ms P X := fun W G σ H Q g s k x => by
  refine h W G σ H _ g s (fun W1 vs ds H1 m1 l1 g1 r1 h1 => ⟨by rw [r1.length]; exact size_of h1.1, fun p hp => ?_⟩) x
  obtain ⟨g2, l2⟩ := g1.laid (o := .lst vs) hp
  exact k _ _ _ _ _ (l1.trans l2) g2 (.lst upd_same (RepL.mono l2 _ _ r1)) h1.2
/-- .. a list that will change -/
theorem de_lstC (h : DA K R tA e ms (fun ds m => ds.length ≤ 1000000 ∧ P (.cell m.length) (m ++ [.lst ds])) X) : DE K R (tLst tA) e ms P X := fun W G σ H Q g s k x => by
  refine h W G σ H _ g s (fun W1 vs ds H1 m1 l1 g1 r1 h1 => ⟨by rw [r1.length]; exact size_of h1.1, fun p hp => ?_⟩) x
  have l2 : Le W1 ⟨W1.ι ++ [p], W1.F⟩ := ⟨List.prefix_append _ _, Same.refl _⟩
  obtain ⟨g2, _⟩ := g1.newC (p := p) (o := .lst vs) hp (m := .lst ds) ⟨vs, upd_same, RepL.mono l2 _ _ r1⟩
  exact k _ _ _ _ _ (l1.trans l2) g2 (.cell (by show (W1.ι ++ [p])[m1.length]? = some p; rw [← g1.ln]; simp)) h1.2
/-! ### tests -/
theorem dt_test (h : DE K R ta e ms (fun d m => ∃ b, d = .bl b ∧ PB b m) X) : DT K R (tTest ta) e ms PB X := fun W G σ H Q g s k x =>
  h W G σ H _ g s (fun W1 v d H1 m1 l1 g1 r1 ⟨b, hb, p⟩ => by
    subst hb; cases r1
    exact ⟨b, rfl, k W1 b H1 m1 l1 g1 p⟩) x
theorem dt_B (h : DE K R ta e ms (fun d m => ∃ b, d = .bl b ∧ PB b m) X) : DT K R (tB ta) e ms PB X := fun W G σ H Q g s k x =>
  h W G σ H _ g s (fun W1 v d H1 m1 l1 g1 r1 ⟨b, hb, p⟩ => by
    subst hb; cases r1
    exact ⟨b, rfl, k W1 b H1 m1 l1 g1 p⟩) x

theorem dt_and (h : DT K R tt e ms (fun c m => (c = true → DT K R tu e m PB X) ∧ (c = false → PB false m)) X) : DT K R (tAnd tt tu) e ms PB X := fun W G σ H Q g s k x =>
  h W G σ H _ g s (fun W1 c H1 m1 l1 g1 ⟨a, b⟩ => by
    cases c with
    | true => exact a rfl W1 G σ H1 Q g1 (s.mono l1) (k.le l1) (x.le l1)
    | false => exact k W1 false H1 m1 l1 g1 (b rfl)) x
theorem dt_or (h : DT K R tt e ms (fun c m => (c = true → PB true m) ∧ (c = false → DT K R tu e m PB X)) X) : DT K R (tOr tt tu) e ms PB X := fun W G σ H Q g s k x =>
  h W G σ H _ g s (fun W1 c H1 m1 l1 g1 ⟨a, b⟩ => by
    cases c with
    | false => exact b rfl W1 G σ H1 Q g1 (s.mono l1) (k.le l1) (x.le l1)
    | true => exact k W1 true H1 m1 l1 g1 (a rfl)) x
theorem dt_not (h : DT K R tt e ms (fun c m => PB (!c) m) X) : DT K R (tNot tt) e ms PB X := fun W G σ H Q g s k x =>
  h W G σ H _ g s (fun W1 c H1 m1 l1 g1 p => k W1 (!c) H1 m1 l1 g1 p) x
theorem dt_yes (q : PB true ms) : DT K R tYes e ms PB X := fun W _ _ H _ g _ k _ => k W true H ms (Le.refl W) g q
theorem de_andV (h : DE K R ta e ms (fun d m => ∃ c, d = .bl c ∧ (c = true → DE K R tb e m P X) ∧ (c = false → P (.bl false) m)) X) : DE K R (tAndV ta tb) e ms P X := fun W G σ H Q g s k x =>
  h W G σ H _ g s (fun W1 v d H1 m1 l1 g1 r1 ⟨c, hc, a, b⟩ => by
    subst hc; cases r1
    refine ⟨c, rfl, ?_⟩
    cases c with
    | true => exact a rfl W1 G σ H1 Q g1 (s.mono l1) (k.le l1) (x.le l1)
    | false => exact k W1 _ _ H1 m1 l1 g1 (.bl false) (b rfl)) x
theorem de_orV (h : DE K R ta e ms (fun d m => ∃ c, d = .bl c ∧ (c = true → P (.bl true) m) ∧ (c = false → DE K R tb e m P X)) X) : DE K R (tOrV ta tb) e ms P X := fun W G σ H Q g s k x =>
  h W G σ H _ g s (fun W1 v d H1 m1 l1 g1 r1 ⟨c, hc, a, b⟩ => by
    subst hc; cases r1
    refine ⟨c, rfl, ?_⟩
    cases c with
    | false => exact b rfl W1 G σ H1 Q g1 (s.mono l1) (k.le l1) (x.le l1)
    | true => exact k W1 _ _ H1 m1 l1 g1 (.bl true) (a rfl)) x
theorem de_notV (h : DE K R ta e ms (fun d m => ∃ c, d = .bl c ∧ P (.bl (!c)) m) X) : DE K R (tNotV ta) e ms P X := fun W G σ H Q g s k x =>
  h W G σ H _ g s (fun W1 v d H1 m1 l1 g1 r1 ⟨c, hc, a⟩ => by
    subst hc; cases r1
    exact ⟨c, rfl, k W1 _ _ H1 m1 l1 g1 (.bl _) a⟩) x
theorem de_if (h : DT K R tt e ms (fun c m => (c = true → DE K R ta e m P X) ∧ (c = false → DE K R tb e m P X)) X) : DE K R (tIf tt ta tb) e ms P X := fun W G σ H Q g s k x =>
  h W G σ H _ g s (fun W1 c H1 m1 l1 g1 ⟨a, b⟩ => by
    cases c with
    | true => exact a rfl W1 G σ H1 Q g1 (s.mono l1) (k.le l1) (x.le l1)
    | false => exact b rfl W1 G σ H1 Q g1 (s.mono l1) (k.le l1) (x.le l1)) x
/-- a < b < c -/
theorem de_chain {r r' : R2} (h : DE K R ta e ms (fun x m => DE K R tb e m (fun y m1 => D2 K r x y m1 (fun z m2 => ∃ c, z = .bl c ∧ (c = true → DE K R tc e m2 (fun w m3 => D2 K r' y w m3 P) X) ∧ (c = false → P (.bl false) m2))) X) X) :
    DE K R (tChain r r' ta tb tc) e ms P X := fun W G σ H Q g s k x => by
  refine h W G σ H _ g s (fun W1 v d H1 m1 l1 g1 r1 h1 => ?_) x
  refine h1 W1 G σ H1 _ g1 (s.mono l1) (fun W2 w d' H2 m2 l2 g2 r2 h2 => ?_) (x.le l1)
  refine h2 W2 G H2 v w _ g2 (Rep.mono l2 _ _ r1) r2 (fun W3 z dz H3 m3 l3 g3 r3 ⟨c, hc, a, b⟩ => ?_)
  subst hc; cases r3
  refine ⟨c, rfl, ?_⟩
  cases c with
  | true =>
    refine a rfl W3 G σ H3 _ g3 (s.mono (l1.trans (l2.trans l3))) (fun W4 u du H4 m4 l4 g4 r4 h4 => ?_) (x.le (l1.trans (l2.trans l3)))
    exact h4 W4 G H4 w u Q g4 (Rep.mono (l3.trans l4) _ _ r2) r4 (k.le (l1.trans (l2.trans (l3.trans l4))))
  | false => exact k W3 _ _ H3 m3 (l1.trans (l2.trans l3)) g3 (.bl false) (b rfl)
/-! ### calls of built-ins, methods -/
theorem de_cb {r : List V → Hp → VK → Prop} (h : DA K R tA e ms (fun ds m => DR K r ds m P) X) : DE K R (tCB r tA) e ms P X := fun W G σ H Q g s k x =>
  h W G σ H _ g s (fun W1 vs ds H1 m1 l1 g1 r1 h1 => h1 W1 G H1 vs Q g1 r1 (k.le l1)) x
/-- the receiver's type, by the datum -/
def TyD (K : PySem.W.Frag) (T : String) (x : Dat) (ms : Ms) : Prop := ∀ (W : Wd) (G H : Hp) (v : V), Good K W G H ms → Rep K W v x → tyV K T v H
theorem de_bm {T : String} {r : V → List V → Hp → VK → Prop} (h : DE K R ta e ms (fun x m => TyD K T x m ∧ DA K R tA e m (fun ys m' => DR K (fun vs => match vs with | v :: ws => r v ws | [] => fun _ _ => False) (x :: ys) m' P) X) X) : DE K R (tBM K T r ta tA) e ms P X := fun W G σ H Q g s k x => by
  refine h W G σ H _ g s (fun W1 v d H1 m1 l1 g1 r1 ⟨ht, h1⟩ => ⟨ht W1 G H1 v g1 r1, ?_⟩) x
  refine h1 W1 G σ H1 _ g1 (s.mono l1) (fun W2 ws ds H2 m2 l2 g2 r2 h2 => ?_) (x.le l1)
  exact h2 W2 G H2 (v :: ws) Q g2 (.cons (Rep.mono l2 _ _ r1) r2) (k.le (l1.trans l2))
theorem de_bm0 {T : String} {r : V → List V → Hp → VK → Prop} (h : DE K R ta e ms (fun x m => TyD K T x m ∧ DR K (fun vs => match vs with | v :: ws => r v ws | [] => fun _ _ => False) [x] m P) X) : DE K R (tBM0 K T r ta) e ms P X := fun W G σ H Q g s k x => by
  refine h W G σ H _ g s (fun W1 v d H1 m1 l1 g1 r1 ⟨ht, h1⟩ => ⟨ht W1 G H1 v g1 r1, ?_⟩) x
  exact h1 W1 G H1 [v] Q g1 (.cons r1 .nil) (k.le l1)
theorem tyD_str {z : Str} : TyD K "str" (.str z) ms := fun W G H v g r => by cases r; rfl
end
end DL
namespace DL
open PySem L2
section
variable {K : PySem.W.Frag} {R : WX} {e : Ev} {ms : Ms} {O : Out} {ta tb tc : TE} {tA tr : TA} {tt tu : TT} {t u : TS} {g : TG} {d x y : Dat} {i : Nat}
/-- what an expression lets out of a statement -/
abbrev Out.xp (O : Out) (e : Ev) : XP := fun C ds ms' => O.ex C ds e ms'
theorem ds_next (q : O.nx e ms) : DS K R tNext e ms O := fun W G σ H D g s f => f.nx W σ e H ms (Le.refl W) g s q
theorem ds_break (q : O.bk e ms) : DS K R tBreak e ms O := fun W G σ H D g s f => f.bk W σ e H ms (Le.refl W) g s q
theorem ds_cont (q : O.ct e ms) : DS K R tCont e ms O := fun W G σ H D g s f => f.ct W σ e H ms (Le.refl W) g s q
theorem ds_seq (h : DS K R t e ms { O with nx := fun e' ms' => DS K R u e' ms' O }) : DS K R (tSeq t u) e ms O := fun W G σ H D g s f =>
  h W G σ H _ g s ⟨fun W1 σ1 e1 H1 m1 l1 g1 s1 q => q W1 G σ1 H1 D g1 s1 (f.le l1), f.rt, f.bk, f.ct, f.ex⟩
theorem ds_drop (h : DE K R ta e ms (fun _ m => O.nx e m) (O.xp e)) : DS K R (tDrop ta) e ms O := fun W G σ H D g s f =>
  h W G σ H _ g s (fun W1 v d H1 m1 l1 g1 r1 q => f.nx W1 σ e H1 m1 l1 g1 (s.mono l1) q) (f.ex.at s)
theorem ds_ret (h : DE K R ta e ms O.rt (O.xp e)) : DS K R (tRet ta) e ms O := fun W G σ H D g s f => h W G σ H _ g s f.rt (f.ex.at s)
theorem ds_retN (q : O.rt .non ms) : DS K R tRetN e ms O := fun W G σ H D g s f => f.rt W .non .non H ms (Le.refl W) g .non q
theorem ds_if (h : DT K R tt e ms (fun c m => (c = true → DS K R t e m O) ∧ (c = false → DS K R u e m O)) (O.xp e)) : DS K R (tIfS tt t u) e ms O := fun W G σ H D g s f =>
  h W G σ H _ g s (fun W1 c H1 m1 l1 g1 ⟨a, b⟩ => by
    cases c with
    | true => exact a rfl W1 G σ H1 D g1 (s.mono l1) (f.le l1)
    | false => exact b rfl W1 G σ H1 D g1 (s.mono l1) (f.le l1)) (f.ex.at s)
/-! ### targets -/
theorem dg_name {vs : List Nat} {P : Ev → Ms → Prop} (hi : i ∈ vs) (q : P (e.set i (some d)) ms) : DG K (gName i) d e ms vs P := fun W G σ H v Q g s r k =>
  k W _ _ H ms (Le.refl W) g (s.set r i) ⟨List.length_set, fun j hj => List.getElem?_set_ne (show i ≠ j from fun z => hj (by rw [← z]; exact hi))⟩ q
/-- several -/
def DGs (K : PySem.W.Frag) (g : TGs) (ds : List Dat) (e : Ev) (ms : Ms) (vs : List Nat) (P : Ev → Ms → Prop) : Prop :=
  ∀ (W : Wd) (G : Hp) (σ : St) (H : Hp) (ws : List V) (Q : St → Hp → Prop), Good K W G H ms → Slots K W σ e → RepL K W ws ds →
    (∀ (W' : Wd) (σ' : St) (e' : Ev) (H' : Hp) (ms' : Ms), Le W W' → Good K W' G H' ms' → Slots K W' σ' e' → (σ'.length = σ.length ∧ ∀ i, i ∉ vs → σ'[i]? = σ[i]?) → P e' ms' → Q σ' H') → g ws σ H Q
theorem dgs_nil {vs : List Nat} {P : Ev → Ms → Prop} (q : P e ms) : DGs K gNil [] e ms vs P := fun W G σ H ws Q g s r k => by
  cases r
  exact ⟨rfl, k W σ e H ms (Le.refl W) g s ⟨rfl, fun _ _ => rfl⟩ q⟩
theorem dgs_cons {u : TGs} {ds : List Dat} {vs : List Nat} {P : Ev → Ms → Prop} (h : DG K g d e ms vs (fun e' m' => DGs K u ds e' m' vs P)) : DGs K (gCons g u) (d :: ds) e ms vs P := fun W G σ H ws Q gd s r k => by
  cases r with
  | cons r1 r2 =>
    refine ⟨_, _, rfl, h W G σ H _ _ gd s r1 fun W1 σ1 e1 H1 m1 l1 g1 s1 o1 h1 => ?_⟩
    exact h1 W1 G σ1 H1 _ Q g1 s1 (RepL.mono l1 _ _ r2) fun W2 σ2 e2 H2 m2 l2 g2 s2 o2 h2 => k W2 σ2 e2 H2 m2 (l1.trans l2) g2 s2 ⟨o2.1.trans o1.1, fun j hj => (o2.2 j hj).trans (o1.2 j hj)⟩ h2
theorem dg_tup {u : TGs} {n : Nat} {ds : List Dat} {vs : List Nat} {P : Ev → Ms → Prop} (hn : ds.length = n) (h : DGs K u ds e ms vs P) : DG K (gTup K n u) (.tup ds) e ms vs P := fun W G σ H v Q g s r k => by
  cases r with
  | tup hq rl => exact ⟨_, _, rfl, Same.tup g.fz hq, rl.length.trans hn, h W G σ H _ Q g s rl k⟩
theorem ds_asg {vs : List Nat} (h : DE K R ta e ms (fun d m => DG K g d e m vs O.nx) (O.xp e)) : DS K R (tAsg ta g) e ms O := fun W G σ H D gd s f =>
  h W G σ H _ gd s (fun W1 v d H1 m1 l1 g1 r1 q => q W1 G σ H1 v _ g1 (s.mono l1) r1 fun W2 σ2 e2 H2 m2 l2 g2 s2 _ p => f.nx W2 σ2 e2 H2 m2 (l1.trans l2) g2 s2 p) (f.ex.at s)
theorem ds_set (h : DE K R ta e ms (fun d m => O.nx (e.set i (some d)) m) (O.xp e)) : DS K R (tAsg ta (gName i)) e ms O :=
  ds_asg (vs := [i]) (h.mono fun d m q => dg_name (List.mem_singleton.mpr rfl) q)
theorem ds_par {j : Nat} (h : DA K R tA e ms (fun ds m => ∃ a b, ds = [a, b] ∧ O.nx ((e.set i (some a)).set j (some b)) m) (O.xp e)) : DS K R (tPar i j tA) e ms O := fun W G σ H D g s f =>
  h W G σ H _ g s (fun W1 vs ds H1 m1 l1 g1 r1 ⟨a, b, he, q⟩ => by
    subst he
    cases r1 with
    | cons ra r2 => cases r2 with
      | cons rb r3 =>
        cases r3
        exact ⟨_, _, rfl, f.nx W1 _ _ H1 m1 l1 g1 (((s.mono l1).set ra i).set rb j) q⟩) (f.ex.at s)
theorem ds_par3 {j l : Nat} (h : DA K R tA e ms (fun ds m => ∃ a b c, ds = [a, b, c] ∧ O.nx (((e.set i (some a)).set j (some b)).set l (some c)) m) (O.xp e)) : DS K R (tPar3 i j l tA) e ms O := fun W G σ H D g s f =>
  h W G σ H _ g s (fun W1 vs ds H1 m1 l1 g1 r1 ⟨a, b, c, he, q⟩ => by
    subst he
    cases r1 with
    | cons ra r2 => cases r2 with
      | cons rb r3 => cases r3 with
        | cons rc r4 =>
          cases r4
          exact ⟨_, _, _, rfl, f.nx W1 _ _ H1 m1 l1 g1 ((((s.mono l1).set ra i).set rb j).set rc l) q⟩) (f.ex.at s)
/-! ### what is walked -/
/-- the items of a walk: the iterator's turns tell them, whatever else changes -/
def Walk (K : PySem.W.Frag) (W : Wd) (J : It) (n : Nat) (it : Nat → Dat) : Prop :=
  ∀ (W' : Wd) (G H : Hp) (ms : Ms), Le W W' → Good K W' G H ms →
    (∀ i, n ≤ i → J.stop i H) ∧ (∀ i, i < n → J.go i H) ∧
    ∀ i x H', i < n → J.yld i H x H' → ∃ W2, Le W' W2 ∧ Good K W2 G H' ms ∧ Rep K W2 x (it i)
def DI (K : PySem.W.Frag) (R : WX) (wi : TI) (e : Ev) (ms : Ms) (P : Nat → (Nat → Dat) → Ms → Prop) (X : XP) : Prop :=
  ∀ (W : Wd) (G : Hp) (σ : St) (H : Hp) (Q : It → Hp → Prop), Good K W G H ms → Slots K W σ e →
    (∀ (W' : Wd) (J : It) (n : Nat) (it : Nat → Dat) (H' : Hp) (ms' : Ms), Le W W' → Good K W' G H' ms' → Walk K W' J n it → P n it ms' → Q J H') → ExC K W G X (fun c d H' => R c d σ H') → wi σ H Q

variable {wi : TI} {tt1 : TT} {te : TE} {X : XP} {P : Dat → Ms → Prop}
theorem DI.mono {P P' : Nat → (Nat → Dat) → Ms → Prop} (h : DI K R wi e ms P X) (q : ∀ n it m, P n it m → P' n it m) : DI K R wi e ms P' X := fun W G σ H Q g s k x =>
  h W G σ H Q g s (fun W' J n it H' m' l g' w p => k W' J n it H' m' l g' w (q n it m' p)) x
/-- for target in walked: body -/
theorem ds_for {vs : List Nat} (h : DI K R wi e ms (fun n it m => ∃ J : Nat → Ev → Ms → Prop, J 0 e m ∧
      (∀ i e' m', i < n → J i e' m' → DG K g (it i) e' m' vs (fun e2 m2 => DS K R t e2 m2 { O with nx := J (i + 1), ct := J (i + 1), bk := O.nx })) ∧ ∀ e' m', J n e' m' → O.nx e' m') (O.xp e)) : DS K R (tFor wi g t) e ms O := fun W G σ H D gd s f => by
  refine h W G σ H _ gd s (fun W1 J n it H1 m1 l1 g1 wk ⟨Jv, j0, step, fin⟩ => ?_) (f.ex.at s)
  refine ⟨fun i m σ' H' => m = n - i ∧ i ≤ n ∧ ∃ W2 e2 m2, Le W1 W2 ∧ Good K W2 G H' m2 ∧ Slots K W2 σ' e2 ∧ Jv i e2 m2, ⟨n, rfl, Nat.zero_le _, W1, e, m1, Le.refl _, g1, s.mono l1, j0⟩, ?_⟩
  rintro i m σ' H' ⟨rfl, hi, W2, e2, m2, l2, g2, s2, j2⟩
  obtain ⟨k1, k2, k3⟩ := wk W2 G H' m2 l2 g2
  by_cases hlt : i < n
  · refine .inr ⟨k2 i hlt, fun σ'' H'' => i + 1 ≤ n ∧ ∃ W3 e3 m3, Le W1 W3 ∧ Good K W3 G H'' m3 ∧ Slots K W3 σ'' e3 ∧ Jv (i + 1) e3 m3, fun σ'' H'' hh => ⟨n - (i + 1), by omega, rfl, hh⟩, fun x H3 hy => ?_⟩
    obtain ⟨W3, l3, g3, r3⟩ := k3 i x H3 hlt hy
    refine step i e2 m2 hlt j2 W3 G σ' H3 x _ g3 (s2.mono l3) r3 fun W4 σ4 e4 H4 m4 l4 g4 s4 _ p4 => ?_
    have lw : Le W1 W4 := l2.trans (l3.trans l4)
    have nxt : NxC K W4 G (Jv (i + 1)) (fun σ'' H'' => i + 1 ≤ n ∧ ∃ W3 e3 m3, Le W1 W3 ∧ Good K W3 G H'' m3 ∧ Slots K W3 σ'' e3 ∧ Jv (i + 1) e3 m3) := fun W5 σ5 e5 H5 m5 l5 g5 s5 q => ⟨hlt, W5, e5, m5, lw.trans l5, g5, s5, q⟩
    have f4 := f.le (l1.trans lw)
    exact p4 W4 G σ4 H4 _ g4 s4 ⟨nxt, f4.rt, f4.nx, nxt, f4.ex⟩
  · have e : i = n := by omega
    subst e
    exact .inl ⟨k1 i (Nat.le_refl _), f.nx W2 σ' e2 H' m2 (l1.trans l2) g2 s2 (fin e2 m2 j2)⟩
/-! ### comprehensions -/
def wipeE (e : Ev) : List Nat → Ev
  | [] => e
  | v :: vs => (wipeE e vs).set v none
theorem Slots.wipe {W : Wd} {σ : St} (s : Slots K W σ e) : ∀ vs : List Nat, Slots K W (wipe σ vs) (wipeE e vs)
  | [] => s
  | v :: vs => by
    have ih := Slots.wipe s vs
    refine ⟨by show ((L2.wipe σ vs).set v none).length = ((wipeE e vs).set v none).length; rw [List.length_set, List.length_set]; exact ih.1, fun j d h => ?_⟩
    have h' : ((wipeE e vs).set v none)[j]? = some (some d) := h
    by_cases hj : v = j
    · subst hj
      by_cases hl : v < (wipeE e vs).length
      · rw [List.getElem?_set_self hl] at h'; cases h'
      · rw [List.getElem?_eq_none (by rw [List.length_set]; omega)] at h'; cases h'
    · rw [List.getElem?_set_ne hj] at h'
      obtain ⟨w, h1, h2⟩ := ih.2 j d h'
      exact ⟨w, by show ((L2.wipe σ vs).set v none)[j]? = _; rw [List.getElem?_set_ne hj]; exact h1, h2⟩
theorem wipe_in {σ : St} : ∀ {vs : List Nat} {j : Nat}, j ∈ vs → j < σ.length → (wipe σ vs)[j]? = some none
  | v :: vs, j, h, hl => by
    unfold L2.wipe
    by_cases hj : v = j
    · subst hj
      exact List.getElem?_set_self (by rw [wipe_length]; exact hl)
    · rw [List.getElem?_set_ne hj]
      exact wipe_in (by rcases List.mem_cons.mp h with z | z; exact absurd z.symm hj; exact z) hl
theorem wipe_no {σ : St} : ∀ {vs : List Nat} {j : Nat}, j ∉ vs → (wipe σ vs)[j]? = σ[j]?
  | [], _, _ => rfl
  | v :: vs, j, h => by
    unfold L2.wipe
    rw [List.getElem?_set_ne (fun z => h (by rw [z]; exact List.mem_cons_self))]
    exact wipe_no fun z => h (List.mem_cons_of_mem _ z)
theorem wipe_same {σ σ' : St} {vs : List Nat} (hl : σ'.length = σ.length) (h : ∀ i, i ∉ vs → σ'[i]? = (wipe σ vs)[i]?) : wipe σ' vs = wipe σ vs := by
  refine List.ext_getElem? fun j => ?_
  by_cases hj : j ∈ vs
  · by_cases hb : j < σ.length
    · rw [wipe_in hj (by rw [hl]; exact hb), wipe_in hj hb]
    · rw [List.getElem?_eq_none (by rw [wipe_length]; omega), List.getElem?_eq_none (by rw [wipe_length]; omega)]
  · rw [wipe_no hj, h j hj]
theorem RepL.append {W : Wd} : ∀ {xs : List V} {ds : List Dat}, RepL K W xs ds → ∀ {y : V} {d : Dat}, Rep K W y d → RepL K W (xs ++ [y]) (ds ++ [d])
  | _, [], h, y, d, r => by cases h; exact .cons r .nil
  | _, d0 :: ds, h, y, d, r => by cases h with | cons a b => exact .cons a (RepL.append b r)
/-- the words of a comprehension: J of the turn and what is made so far -/
def LcW (K : PySem.W.Frag) (R : WX) (g : TG) (tt : TT) (te : TE) (vs : List Nat) (e : Ev) (n : Nat) (it : Nat → Dat) (m : Ms) (Fin : List Dat → Ms → Prop) : Prop :=
  n ≤ 1000000 ∧ ∃ J : Nat → List Dat → Ms → Prop, J 0 [] m ∧
    (∀ i acc m', i < n → acc.length ≤ i → J i acc m' → DG K g (it i) (wipeE e vs) m' vs (fun e2 m2 => DT K R tt e2 m2 (fun b m3 => (b = true → DE K R te e2 m3 (fun y m4 => J (i + 1) (acc ++ [y]) m4) (fun _ _ _ => False)) ∧ (b = false → J (i + 1) acc m3)) (fun _ _ _ => False))) ∧
    ∀ acc m', acc.length ≤ n → J n acc m' → Fin acc m'
theorem lc_run {vs : List Nat} {Fin : List Dat → Ms → Prop} (h : DI K R wi e ms (fun n it m => LcW K R g tt te vs e n it m Fin) X) {W : Wd} {G : Hp} {σ : St} {H : Hp} {Q : VK} (gd : Good K W G H ms) (s : Slots K W σ e)
    (k : ∀ (W' : Wd) (D : Addr) (ys : List V) (acc : List Dat) (H' : Hp) (m' : Ms), Le W W' → Good K W' (upd G D (.lst ys)) H' m' → G D = none → RepL K W' ys acc → Fin acc m' → Q (.ref D) H') (x : ExC K W G X (fun c d H' => R c d σ H')) : tLc wi g tt te vs σ H Q := by
  refine h W G σ H _ gd s (fun W1 J n it H1 m1 l1 g1 wk ⟨hn, Jv, j0, step, fin⟩ D hD => ?_) x
  have gD : G D = none := g1.gd.free hD
  refine ⟨fun i m H' => m = n - i ∧ i ≤ n ∧ ∃ W2 ys acc m2, Le W1 W2 ∧ Good K W2 (upd G D (.lst ys)) H' m2 ∧ RepL K W2 ys acc ∧ acc.length ≤ i ∧ Jv i acc m2, ⟨n, rfl, Nat.zero_le _, W1, [], [], m1, Le.refl _, g1.hold hD, .nil, Nat.zero_le _, j0⟩, ?_⟩
  rintro i m H' ⟨rfl, hi, W2, ys, acc, m2, l2, g2, r2, ha, j2⟩
  obtain ⟨k1, k2, k3⟩ := wk W2 (upd G D (.lst ys)) H' m2 l2 g2
  by_cases hlt : i < n
  · refine .inr ⟨k2 i hlt, fun H'' => i + 1 ≤ n ∧ ∃ W3 ys acc m3, Le W1 W3 ∧ Good K W3 (upd G D (.lst ys)) H'' m3 ∧ RepL K W3 ys acc ∧ acc.length ≤ i + 1 ∧ Jv (i + 1) acc m3, fun H'' hh => ⟨n - (i + 1), by omega, rfl, hh⟩, fun v H3 hy => ?_⟩
    obtain ⟨W3, l3, g3, r3⟩ := k3 i v H3 hlt hy
    have sw := ((s.mono (l1.trans l2)).mono l3).wipe vs
    refine step i acc m2 hlt ha j2 W3 _ (wipe σ vs) H3 v _ g3 sw r3 fun W4 σ4 e4 H4 m4 l4 g4 s4 o4 p4 => ⟨?_, ?_⟩
    · exact wipe_same (o4.1.trans (wipe_length σ vs)) o4.2
    · refine p4 W4 _ σ4 H4 _ g4 s4 (fun W5 b H5 m5 l5 g5 ⟨pb1, pb2⟩ => ?_) (fun _ _ _ _ _ _ _ _ _ _ _ z => z.elim)
      cases b with
      | true =>
        refine pb1 rfl W5 _ σ4 H5 _ g5 (s4.mono l5) (fun W6 y d H6 m6 l6 g6 r6 q6 => ?_) (fun _ _ _ _ _ _ _ _ _ _ _ z => z.elim)
        have lw : Le W2 W6 := l3.trans (l4.trans (l5.trans l6))
        refine ⟨ys, g6.gd D _ upd_same, ?_, ?_⟩
        · rw [r2.length]
          exact Nat.lt_of_lt_of_le (show acc.length < 1000001 by omega) (by decide)
        · have g7 := g6.held (.lst (ys ++ [y]))
          exact ⟨hlt, W6, ys ++ [y], acc ++ [d], m6, l2.trans lw, g7, RepL.append (RepL.mono lw _ _ r2) r6, by rw [List.length_append, List.length_singleton]; omega, q6⟩
      | false => exact ⟨hlt, W5, ys, acc, m5, l2.trans (l3.trans (l4.trans l5)), g5, RepL.mono (l3.trans (l4.trans l5)) _ _ r2, by omega, pb2 rfl⟩
  · have e : i = n := by omega
    subst e
    exact .inl ⟨k1 i (Nat.le_refl _), k W2 D ys acc H' m2 (l1.trans l2) g2 gD r2 (fin acc m2 ha j2)⟩
end
end DL
namespace DL
open PySem L2
section
variable {K : PySem.W.Frag} {R : WX} {e : Ev} {ms : Ms} {O : Out} {ta tb tc : TE} {tA tr : TA} {tt tu : TT} {t u : TS} {g : TG} {d x y : Dat} {i : Nat} {wi : TI} {te : TE} {X : XP} {P : Dat → Ms → Prop}
/-- a comprehension: its list a datum -/
theorem de_lc {vs : List Nat} (h : DI K R wi e ms (fun n it m => LcW K R g tt te vs e n it m (fun acc m' => P (.lst acc) m')) X) : DE K R (tLc wi g tt te vs) e ms P X := fun W G σ H Q gd s k x =>
  lc_run h gd s (fun W' D ys acc H' m' l g' n r p => by
    obtain ⟨g2, l2⟩ := g'.frozen n
    exact k _ _ _ _ _ (l.trans l2) g2 (.lst upd_same (RepL.mono l2 _ _ r)) p) x
theorem Good.toC {W : Wd} {G H : Hp} {p : Addr} {xs : List V} {ds : List Dat} (g : Good K W (upd G p (.lst xs)) H ms) (n : G p = none) (r : RepL K W xs ds) : Good K ⟨W.ι ++ [p], W.F⟩ G H (ms ++ [.lst ds]) ∧ Le W ⟨W.ι ++ [p], W.F⟩ := by
  have nf : W.F p = none := g.gF p _ upd_same
  have np : p ∉ W.ι := fun h => by
    have := g.nG p h
    rw [upd_same] at this; cases this
  have l : Le W ⟨W.ι ++ [p], W.F⟩ := ⟨List.prefix_append _ _, Same.refl _⟩
  refine ⟨⟨g.fz, (same_new n).trans g.gd, by simp [g.ln], ?_, fun a h => ?_, fun a h => ?_, fun a v e => g.gF a v (by rw [upd_ne (ne_of_none e n)]; exact e), fun k a m' h1 h2 => ?_⟩, l⟩
  · show (W.ι ++ [p]).Nodup
    refine List.nodup_append.mpr ⟨g.nd, by simp, fun a ha b hb z => ?_⟩
    have : b = p := by simpa using hb
    subst this; subst z
    exact np ha
  · rcases List.mem_append.mp (show a ∈ W.ι ++ [p] from h) with h | h
    · exact g.nF a h
    · have : a = p := by simpa using h
      subst this
      exact nf
  · rcases List.mem_append.mp (show a ∈ W.ι ++ [p] from h) with h | h
    · have := g.nG a h
      rw [upd_ne (show a ≠ p from fun z => np (by rw [← z]; exact h))] at this
      exact this
    · have : a = p := by simpa using h
      subst this
      exact n
  · by_cases hk : k < W.ι.length
    · have h1' : W.ι[k]? = some a := by rw [← h1]; exact (List.getElem?_append_left hk).symm
      have h2' : ms[k]? = some m' := by rw [← h2]; exact (List.getElem?_append_left (by rw [← g.ln]; exact hk)).symm
      exact (g.cl k a m' h1' h2').mono l fun u e => e
    · have e1 : (W.ι ++ [p])[k]? = some a := h1
      rw [List.getElem?_append_right (by omega)] at e1
      rw [List.getElem?_append_right (by rw [← g.ln]; omega), ← g.ln] at h2
      have hk0 : k - W.ι.length = 0 := by
        cases q : k - W.ι.length with
        | zero => rfl
        | succ j => rw [q] at e1; simp at e1
      rw [hk0] at e1 h2
      cases e1; cases h2
      exact ⟨xs, g.gd _ _ upd_same, RepL.mono l _ _ r⟩
/-- .. a list that will change -/
theorem de_lcC {vs : List Nat} (h : DI K R wi e ms (fun n it m => LcW K R g tt te vs e n it m (fun acc m' => P (.cell m'.length) (m' ++ [.lst acc]))) X) : DE K R (tLc wi g tt te vs) e ms P X := fun W G σ H Q gd s k x =>
  lc_run h gd s (fun W' D ys acc H' m' l g' n r p => by
    obtain ⟨g2, l2⟩ := g'.toC n r
    exact k _ _ _ _ _ (l.trans l2) g2 (.cell (by show (W'.ι ++ [D])[m'.length]? = some D; rw [← g'.ln]; simp)) p) x
/-- the plain case: each turn tells its own item, nothing changes -/
theorem lcw_map {vs : List Nat} {n : Nat} {it : Nat → Dat} {Fin : List Dat → Ms → Prop} (hn : n ≤ 1000000) (keep : Nat → Bool) (f : Nat → Dat)
    (h : ∀ i, i < n → DG K g (it i) (wipeE e vs) ms vs (fun e2 m2 => DT K R tt e2 m2 (fun b m3 => b = keep i ∧ m3 = ms ∧ (b = true → DE K R te e2 ms (fun y m4 => y = f i ∧ m4 = ms) (fun _ _ _ => False))) (fun _ _ _ => False)))
    (q : Fin (((List.range n).filter keep).map f) ms) : LcW K R g tt te vs e n it ms Fin := by
  refine ⟨hn, fun i acc m => m = ms ∧ acc = ((List.range i).filter keep).map f, ⟨rfl, rfl⟩, ?_, ?_⟩
  · rintro i acc m' hi _ ⟨rfl, rfl⟩ W G σ H v Q g s r k
    refine h i hi W G σ H v Q g s r fun W' σ' e' H' ms' l g' s' o p => k W' σ' e' H' ms' l g' s' o ?_
    intro W G σ H Q g s k x
    refine p W G σ H Q g s (fun W' b H' m3 l g' ⟨hb, hm, hd⟩ => k W' b H' m3 l g' ?_) x
    subst hm
    constructor
    · intro hbt
      refine (hd hbt).mono fun y m4 ⟨hy, hm4⟩ => ⟨hm4, ?_⟩
      subst hy
      rw [List.range_succ, List.filter_append, List.map_append, show List.filter keep [i] = [i] by simp [← hb, hbt]]
      rfl
    · intro hbf
      refine ⟨rfl, ?_⟩
      rw [List.range_succ, List.filter_append, show List.filter keep [i] = [] by simp [← hb, hbf], List.append_nil]
  · rintro acc m' _ ⟨rfl, rfl⟩
    exact q
theorem dt_true {P : Bool → Ms → Prop} (q : P true ms) : DT K R tYes e ms P X := dt_yes q
/-! ### walks -/
theorem RepL.get {W : Wd} : ∀ {vs : List V} {ds : List Dat}, RepL K W vs ds → ∀ (i : Nat) {v : V}, vs[i]? = some v → ∃ d, ds[i]? = some d ∧ Rep K W v d
  | _, [], h, i, v, e => by cases h; simp at e
  | _, d :: ds, h, 0, v, e => by cases h with | cons a b => cases e; exact ⟨d, rfl, a⟩
  | _, d :: ds, h, i + 1, v, e => by cases h with | cons a b => exact RepL.get b i (by simpa using e)
theorem RepL.getD {W : Wd} : ∀ {vs : List V} {ds : List Dat}, RepL K W vs ds → ∀ (i : Nat) {d : Dat}, ds[i]? = some d → ∃ v, vs[i]? = some v ∧ Rep K W v d
  | _, [], h, i, v, e => by simp at e
  | _, d :: ds, h, 0, v, e => by cases h with | cons a b => cases e; exact ⟨_, rfl, a⟩
  | _, d :: ds, h, i + 1, v, e => by cases h with | cons a b => exact RepL.getD b i (by simpa using e)
/-- the items of a list, by their places -/
def itL (xs : List Dat) (i : Nat) : Dat := xs.getD i .non
theorem itL_get {xs : List Dat} {i : Nat} {d : Dat} (h : xs[i]? = some d) : itL xs i = d := by unfold itL; rw [List.getD_eq_getElem?_getD, h]; rfl
theorem walk_list {W : Wd} {a : Addr} {vs : List V} {ds : List Dat} (hq : SqL K W.F a vs) (r : RepL K W vs ds) : Walk K W (Itl K a) ds.length (itL ds) := fun W' G H m l g => by
  have hq' : SqL K H a vs := (l.f.trans g.fz).seq hq
  refine ⟨fun i hi => ⟨vs, hq', by rw [r.length]; exact hi⟩, fun i hi => ?_, fun i x H' hi hy => ?_⟩
  · have hv : i < vs.length := by rw [r.length]; exact hi
    exact ⟨vs, vs[i], hq', List.getElem?_eq_getElem hv⟩
  · obtain ⟨e1, e2⟩ := hy
    subst e1
    obtain ⟨d, hd, rd⟩ := r.get i (e2 vs hq')
    rw [itL_get hd]
    exact ⟨W', Le.refl _, g, Rep.mono l _ _ rd⟩
theorem walk_tup {W : Wd} {a : Addr} {vs : List V} {ds : List Dat} (hq : SqT K W.F a vs) (r : RepL K W vs ds) : Walk K W (Itt K a) ds.length (itL ds) := fun W' G H m l g => by
  have hq' : SqT K H a vs := Same.tup (l.f.trans g.fz) hq
  refine ⟨fun i hi => ⟨vs, hq', by rw [r.length]; exact hi⟩, fun i hi => ?_, fun i x H' hi hy => ?_⟩
  · have hv : i < vs.length := by rw [r.length]; exact hi
    exact ⟨vs, vs[i], hq', List.getElem?_eq_getElem hv⟩
  · obtain ⟨e1, e2⟩ := hy
    subst e1
    obtain ⟨d, hd, rd⟩ := r.get i (e2 vs hq')
    rw [itL_get hd]
    exact ⟨W', Le.refl _, g, Rep.mono l _ _ rd⟩
/-- one sign of a text -/
def sign1 (c : Nat) : Str := ⟨#[c]⟩
def itS (z : Str) (i : Nat) : Dat := .str (sign1 (z.cps.toList.getD i 0))
theorem walk_str {W : Wd} (z : Str) : Walk K W (Its z) z.cps.toList.length (itS z) := fun W' G H m l g => by
  refine ⟨fun i hi => by show z.cps.size ≤ i; simpa using hi, fun i hi => by show i < z.cps.size; simpa using hi, fun i x H' hi hy => ?_⟩
  obtain ⟨e1, c, hc, e2⟩ := hy
  subst e1; subst e2
  refine ⟨W', Le.refl _, g, ?_⟩
  have e3 : itS z i = .str ⟨#[c]⟩ := by
    unfold itS sign1
    rw [List.getD_eq_getElem?_getD, Array.getElem?_toList, hc]
    rfl
  rw [e3]
  exact .str _
theorem walk_range {W : Wd} (lo : Int) (n : Nat) : Walk K W (Itr lo n) n (fun i => .int (lo + i)) := fun W' G H m l g => by
  refine ⟨fun i hi => hi, fun i hi => hi, fun i x H' hi hy => ?_⟩
  obtain ⟨e1, e2⟩ := hy
  subst e1; subst e2
  exact ⟨W', Le.refl _, g, .int _⟩
variable {PI : Nat → (Nat → Dat) → Ms → Prop}
theorem di_list (h : DE K R ta e ms (fun d m => ∃ xs, (d = .lst xs ∨ d = .rol xs) ∧ PI xs.length (itL xs) m) X) : DI K R (iList K ta) e ms PI X := fun W G σ H Q g s k x =>
  h W G σ H _ g s (fun W1 v d H1 m1 l1 g1 r1 ⟨xs, hd, p⟩ => by
    rcases hd with hd | hd
    · subst hd
      cases r1 with
      | lst e r => exact ⟨_, rfl, ⟨_, .inl (.inl (g1.fz _ _ e))⟩, k W1 _ _ _ H1 m1 l1 g1 (walk_list (.inl (.inl e)) r) p⟩
    · subst hd
      cases r1 with
      | rol e r => exact ⟨_, rfl, ⟨_, g1.fz.seq e⟩, k W1 _ _ _ H1 m1 l1 g1 (walk_list e r) p⟩) x
theorem di_tup (h : DE K R ta e ms (fun d m => ∃ xs, d = .tup xs ∧ PI xs.length (itL xs) m) X) : DI K R (iTup K ta) e ms PI X := fun W G σ H Q g s k x =>
  h W G σ H _ g s (fun W1 v d H1 m1 l1 g1 r1 ⟨xs, hd, p⟩ => by
    subst hd
    cases r1 with
    | tup e r => exact ⟨_, rfl, ⟨_, Same.tup g1.fz e⟩, k W1 _ _ _ H1 m1 l1 g1 (walk_tup e r) p⟩) x
theorem di_str (h : DE K R ta e ms (fun d m => ∃ z, d = .str z ∧ PI z.cps.toList.length (itS z) m) X) : DI K R (iStr ta) e ms PI X := fun W G σ H Q g s k x =>
  h W G σ H _ g s (fun W1 v d H1 m1 l1 g1 r1 ⟨z, hd, p⟩ => by
    subst hd
    cases r1
    exact ⟨z, rfl, k W1 _ _ _ H1 m1 l1 g1 (walk_str z) p⟩) x
theorem di_rng1 (h : DA K R tA e ms (fun ds m => ∃ j : Int, ds = [.int j] ∧ -(2 ^ 62) ≤ j ∧ j < 2 ^ 62 ∧ PI j.toNat (fun i => .int (0 + i)) m) X) : DI K R (iRng1 tA) e ms PI X := fun W G σ H Q g s k x =>
  h W G σ H _ g s (fun W1 v d H1 m1 l1 g1 r1 ⟨j, hd, b1, b2, p⟩ => by
    subst hd
    cases r1 with
    | cons a b =>
      cases b; cases a
      exact ⟨j, rfl, b1, b2, k W1 _ _ _ H1 m1 l1 g1 (walk_range 0 j.toNat) p⟩) x
theorem di_rng2 (h : DA K R tA e ms (fun ds m => ∃ i j : Int, ds = [.int i, .int j] ∧ (-(2 ^ 62) ≤ i ∧ i < 2 ^ 62 ∧ -(2 ^ 62) ≤ j ∧ j < 2 ^ 62) ∧ PI (j - i).toNat (fun k => .int (i + k)) m) X) : DI K R (iRng2 tA) e ms PI X := fun W G σ H Q g s k x =>
  h W G σ H _ g s (fun W1 v d H1 m1 l1 g1 r1 ⟨i, j, hd, b1, p⟩ => by
    subst hd
    cases r1 with
    | cons a b => cases b with
      | cons a' b' =>
        cases b'; cases a; cases a'
        exact ⟨i, j, rfl, b1, k W1 _ _ _ H1 m1 l1 g1 (walk_range i _) p⟩) x
/-! ### calls of the text's own defs: a promise over data -/
/-- what a def promises: from data and cells, what may be concluded of its answer (P), of what it raises (X) -/
abbrev Pm := List Dat → Ms → (Dat → Ms → Prop) → XP → Prop
def spD (K : PySem.W.Frag) (A : Pm) : Sp := fun vs H Q E => ∃ (W : Wd) (G : Hp) (ms : Ms) (ds : List Dat) (P : Dat → Ms → Prop) (X : XP), Good K W G H ms ∧ RepL K W vs ds ∧ A ds ms P X ∧ RtC K W G P Q ∧ ExC K W G X E
theorem de_call {A : Pm} (h : DA K R tA e ms (fun ds m => A ds m P X) X) : DE K R (tCallS (spD K A) (WE R) tA) e ms P X := fun W G σ H Q g s k x =>
  h W G σ H _ g s (fun W1 vs ds H1 m1 l1 g1 r1 a => ⟨W1, G, m1, ds, P, X, g1, r1, a, k.le l1, x.le l1⟩) x
/-- .. where nothing is let out -/
theorem de_call0 {A : Pm} (h : DA K R tA e ms (fun ds m => A ds m P (fun _ _ _ => False)) X) : DE K R (tCall (spD K A) [] E0 tA) e ms P X := fun W G σ H Q g s k x =>
  h W G σ H _ g s (fun W1 vs ds H1 m1 l1 g1 r1 a => ⟨W1, G, m1, ds, P, fun _ _ _ => False, g1, by rw [List.append_nil]; exact r1, a, k.le l1, fun _ _ _ _ _ _ _ _ _ _ _ z => z.elim⟩) x
/-! ### a def's body -/
mutual
/-- all cells of a datum are below n -/
inductive Bel (n : Nat) : Dat → Prop
  | non : Bel n .non
  | bl (b : Bool) : Bel n (.bl b)
  | int (i : Int) : Bel n (.int i)
  | str (x : Str) : Bel n (.str x)
  | ref (a : Addr) : Bel n (.ref a)
  | ty (x : String) : Bel n (.ty x)
  | cell {k : Nat} : k < n → Bel n (.cell k)
  | lst {ds : List Dat} : BelL n ds → Bel n (.lst ds)
  | tup {ds : List Dat} : BelL n ds → Bel n (.tup ds)
  | rol {ds : List Dat} : BelL n ds → Bel n (.rol ds)
  | dct {ds : List (Key × Dat)} : BelL n (ds.map (·.2)) → Bel n (.dct ds)
  | exc {C : Addr} {ds : List (Str × Dat)} : BelL n (ds.map (·.2)) → Bel n (.exc C ds)
  | hot {a dd C : Addr} {ds : List (Str × Dat)} : BelL n (ds.map (·.2)) → Bel n (.hot a dd C ds)
inductive BelL (n : Nat) : List Dat → Prop
  | nil : BelL n []
  | cons {d : Dat} {ds : List Dat} : Bel n d → BelL n ds → BelL n (d :: ds)
end
mutual
theorem Rep.bel {W : Wd} : ∀ (d : Dat) (v : V), Rep K W v d → Bel W.ι.length d
  | .non, _, h => .non
  | .bl b, _, h => .bl b
  | .int b, _, h => .int b
  | .str b, _, h => .str b
  | .ref b, _, h => .ref b
  | .ty b, _, h => .ty b
  | .cell k, _, h => by cases h with | cell e => exact .cell (List.getElem?_eq_some_iff.mp e).1
  | .lst ds, _, h => by cases h with | lst e r => exact .lst (RepL.bel ds _ r)
  | .tup ds, _, h => by cases h with | tup e r => exact .tup (RepL.bel ds _ r)
  | .rol ds, _, h => by cases h with | rol e r => exact .rol (RepL.bel ds _ r)
  | .dct ds, _, h => by cases h with | dct e r => exact .dct (RepK.bel ds _ r)
  | .exc C ds, _, h => by cases h with | exc e e' r => exact .exc (RepF.bel ds _ r)
  | .hot a dd C ds, _, h => by cases h with | hot e r => exact .hot (RepF.bel ds _ r)
theorem RepL.bel {W : Wd} : ∀ (ds : List Dat) (vs : List V), RepL K W vs ds → BelL W.ι.length ds
  | [], _, h => .nil
  | d :: ds, _, h => by cases h with | cons a b => exact .cons (Rep.bel d _ a) (RepL.bel ds _ b)
theorem RepF.bel {W : Wd} : ∀ (ds : List (Str × Dat)) (vs : List (Str × V)), RepF K W vs ds → BelL W.ι.length (ds.map (·.2))
  | [], _, h => .nil
  | (f, d) :: ds, _, h => by cases h with | cons a b => exact .cons (Rep.bel d _ a) (RepF.bel ds _ b)
theorem RepK.bel {W : Wd} : ∀ (ds : List (Key × Dat)) (vs : List (Key × V)), RepK K W vs ds → BelL W.ι.length (ds.map (·.2))
  | [], _, h => .nil
  | (f, d) :: ds, _, h => by cases h with | cons a b => exact .cons (Rep.bel d _ a) (RepK.bel ds _ b)
end
end
end DL
namespace DL
open PySem L2
mutual
/-- cells from n on read as what they hold in the end -/
inductive Fr (n : Nat) (ms : Ms) : Dat → Dat → Prop
  | non : Fr n ms .non .non
  | bl (b : Bool) : Fr n ms (.bl b) (.bl b)
  | int (i : Int) : Fr n ms (.int i) (.int i)
  | str (x : Str) : Fr n ms (.str x) (.str x)
  | ref (a : Addr) : Fr n ms (.ref a) (.ref a)
  | ty (x : String) : Fr n ms (.ty x) (.ty x)
  | cell {k : Nat} : k < n → Fr n ms (.cell k) (.cell k)
  | cellL {k : Nat} {xs ys : List Dat} : n ≤ k → ms[k]? = some (.lst xs) → FrL n ms xs ys → Fr n ms (.cell k) (.lst ys)
  | cellD {k : Nat} {xs ys : List (Key × Dat)} : n ≤ k → ms[k]? = some (.dct xs) → FrK n ms xs ys → Fr n ms (.cell k) (.dct ys)
  | lst {xs ys : List Dat} : FrL n ms xs ys → Fr n ms (.lst xs) (.lst ys)
  | tup {xs ys : List Dat} : FrL n ms xs ys → Fr n ms (.tup xs) (.tup ys)
  | rol {xs ys : List Dat} : FrL n ms xs ys → Fr n ms (.rol xs) (.rol ys)
  | dct {xs ys : List (Key × Dat)} : FrK n ms xs ys → Fr n ms (.dct xs) (.dct ys)
  | exc {C : Addr} {xs ys : List (Str × Dat)} : FrF n ms xs ys → Fr n ms (.exc C xs) (.exc C ys)
  | hot {a dd C : Addr} {xs ys : List (Str × Dat)} : FrF n ms xs ys → Fr n ms (.hot a dd C xs) (.hot a dd C ys)
inductive FrL (n : Nat) (ms : Ms) : List Dat → List Dat → Prop
  | nil : FrL n ms [] []
  | cons {x y : Dat} {xs ys : List Dat} : Fr n ms x y → FrL n ms xs ys → FrL n ms (x :: xs) (y :: ys)
inductive FrF (n : Nat) (ms : Ms) : List (Str × Dat) → List (Str × Dat) → Prop
  | nil : FrF n ms [] []
  | cons {f : Str} {x y : Dat} {xs ys : List (Str × Dat)} : Fr n ms x y → FrF n ms xs ys → FrF n ms ((f, x) :: xs) ((f, y) :: ys)
inductive FrK (n : Nat) (ms : Ms) : List (Key × Dat) → List (Key × Dat) → Prop
  | nil : FrK n ms [] []
  | cons {f : Key} {x y : Dat} {xs ys : List (Key × Dat)} : Fr n ms x y → FrK n ms xs ys → FrK n ms ((f, x) :: xs) ((f, y) :: ys)
end
mutual
theorem Fr.refl {n : Nat} {ms : Ms} : ∀ (d : Dat), Bel n d → Fr n ms d d
  | .non, _ => .non
  | .bl b, _ => .bl b
  | .int b, _ => .int b
  | .str b, _ => .str b
  | .ref b, _ => .ref b
  | .ty b, _ => .ty b
  | .cell k, h => by cases h with | cell e => exact .cell e
  | .lst ds, h => by cases h with | lst r => exact .lst (FrL.refl ds r)
  | .tup ds, h => by cases h with | tup r => exact .tup (FrL.refl ds r)
  | .rol ds, h => by cases h with | rol r => exact .rol (FrL.refl ds r)
  | .dct ds, h => by cases h with | dct r => exact .dct (FrK.refl ds r)
  | .exc C ds, h => by cases h with | exc r => exact .exc (FrF.refl ds r)
  | .hot a dd C ds, h => by cases h with | hot r => exact .hot (FrF.refl ds r)
theorem FrL.refl {n : Nat} {ms : Ms} : ∀ (ds : List Dat), BelL n ds → FrL n ms ds ds
  | [], _ => .nil
  | d :: ds, h => by cases h with | cons a b => exact .cons (Fr.refl d a) (FrL.refl ds b)
theorem FrF.refl {n : Nat} {ms : Ms} : ∀ (ds : List (Str × Dat)), BelL n (ds.map (·.2)) → FrF n ms ds ds
  | [], _ => .nil
  | (f, d) :: ds, h => by cases h with | cons a b => exact .cons (Fr.refl d a) (FrF.refl ds b)
theorem FrK.refl {n : Nat} {ms : Ms} : ∀ (ds : List (Key × Dat)), BelL n (ds.map (·.2)) → FrK n ms ds ds
  | [], _ => .nil
  | (f, d) :: ds, h => by cases h with | cons a b => exact .cons (Fr.refl d a) (FrK.refl ds b)
end
/-- the world behind: the cells from n on are data -/
def cutW (W : Wd) (H : Hp) (n : Nat) : Wd := ⟨W.ι.take n, fun a => if a ∈ W.ι.drop n then H a else W.F a⟩
section
variable {K : PySem.W.Frag} {W : Wd} {G H : Hp} {ms : Ms} {n : Nat}
theorem cut_old (g : Good K W G H ms) {a : Addr} {o : HO} (h : W.F a = some o) : (cutW W H n).F a = some o := by
  show (if a ∈ W.ι.drop n then H a else W.F a) = some o
  by_cases hm : a ∈ W.ι.drop n
  · have := g.nF a (List.mem_of_mem_drop hm)
    rw [h] at this; cases this
  · rw [if_neg hm]; exact h
theorem cut_new {k : Nat} {a : Addr} {o : HO} (hk : n ≤ k) (e : W.ι[k]? = some a) (h : H a = some o) : (cutW W H n).F a = some o := by
  show (if a ∈ W.ι.drop n then H a else W.F a) = some o
  have hm : a ∈ W.ι.drop n := by
    refine List.mem_of_getElem? (i := k - n) ?_
    rw [List.getElem?_drop, Nat.add_sub_cancel' hk]
    exact e
  rw [if_pos hm]; exact h
theorem cut_l (g : Good K W G H ms) {a : Addr} {xs : List V} (h : SqL K W.F a xs) : SqL K (cutW W H n).F a xs := by
  rcases h with (h | ⟨o, h⟩) | h
  · exact .inl (.inl (cut_old g h))
  · exact .inl (.inr ⟨o, cut_old g h⟩)
  · exact .inr h
theorem cut_t (g : Good K W G H ms) {a : Addr} {xs : List V} (h : SqT K W.F a xs) : SqT K (cutW W H n).F a xs := by
  rcases h with (h | ⟨o, h⟩) | h
  · exact .inl (.inl (cut_old g h))
  · exact .inl (.inr ⟨o, cut_old g h⟩)
  · exact .inr h
theorem take_get {α : Type} {l : List α} {k n : Nat} {a : α} (hk : k < n) (e : l[k]? = some a) : (l.take n)[k]? = some a := by
  rw [List.getElem?_take_of_lt hk]; exact e
mutual
theorem Rep.cut (g : Good K W G H ms) {d d2 : Dat} : ∀ (f : Fr n ms d d2) (v : V), Rep K W v d → Rep K (cutW W H n) v d2
  | .non, _, h => by cases h; exact .non
  | .bl b, _, h => by cases h; exact .bl b
  | .int b, _, h => by cases h; exact .int b
  | .str b, _, h => by cases h; exact .str b
  | .ref b, _, h => by cases h; exact .ref b
  | .ty b, _, h => by cases h; exact .ty b
  | .cell hk, _, h => by cases h with | cell e => exact .cell (take_get hk e)
  | .cellL hk hm f, _, h => by
    cases h with
    | cell e =>
      obtain ⟨xs, hx, r⟩ := (show MoOk K W H _ (.lst _) from g.cl _ _ _ e hm)
      exact .lst (cut_new hk e hx) (RepL.cut g f _ r)
  | .cellD hk hm f, _, h => by
    cases h with
    | cell e =>
      obtain ⟨xs, hx, r⟩ := (show MoOk K W H _ (.dct _) from g.cl _ _ _ e hm)
      exact .dct (cut_new hk e hx) (RepK.cut g f _ r)
  | .lst f, _, h => by cases h with | lst e r => exact .lst (cut_old g e) (RepL.cut g f _ r)
  | .tup f, _, h => by cases h with | tup e r => exact .tup (cut_t g e) (RepL.cut g f _ r)
  | .rol f, _, h => by cases h with | rol e r => exact .rol (cut_l g e) (RepL.cut g f _ r)
  | .dct f, _, h => by cases h with | dct e r => exact .dct (cut_old g e) (RepK.cut g f _ r)
  | .exc f, _, h => by cases h with | exc e e' r => exact .exc (cut_old g e) (cut_old g e') (RepF.cut g f _ r)
  | .hot f, _, h => by cases h with | hot e r => exact .hot (cut_old g e) (RepF.cut g f _ r)
theorem RepL.cut (g : Good K W G H ms) {ds d2 : List Dat} : ∀ (f : FrL n ms ds d2) (vs : List V), RepL K W vs ds → RepL K (cutW W H n) vs d2
  | .nil, _, h => by cases h; exact .nil
  | .cons a b, _, h => by cases h with | cons x y => exact .cons (Rep.cut g a _ x) (RepL.cut g b _ y)
theorem RepF.cut (g : Good K W G H ms) {ds d2 : List (Str × Dat)} : ∀ (f : FrF n ms ds d2) (vs : List (Str × V)), RepF K W vs ds → RepF K (cutW W H n) vs d2
  | .nil, _, h => by cases h; exact .nil
  | .cons a b, _, h => by cases h with | cons x y => exact .cons (Rep.cut g a _ x) (RepF.cut g b _ y)
theorem RepK.cut (g : Good K W G H ms) {ds d2 : List (Key × Dat)} : ∀ (f : FrK n ms ds d2) (vs : List (Key × V)), RepK K W vs ds → RepK K (cutW W H n) vs d2
  | .nil, _, h => by cases h; exact .nil
  | .cons a b, _, h => by cases h with | cons x y => exact .cons (Rep.cut g a _ x) (RepK.cut g b _ y)
end
inductive FrM (n : Nat) (ms : Ms) : MO → MO → Prop
  | lst {xs ys : List Dat} : FrL n ms xs ys → FrM n ms (.lst xs) (.lst ys)
  | dct {xs ys : List (Key × Dat)} : FrK n ms xs ys → FrM n ms (.dct xs) (.dct ys)
  | ins {C : Addr} {xs ys : List (Str × Dat)} : FrF n ms xs ys → FrM n ms (.ins C xs) (.ins C ys)
/-- the cells that stay -/
def Keep (n : Nat) (ms ms2 : Ms) : Prop := ms2.length = n ∧ n ≤ ms.length ∧ ∀ (k : Nat) m, k < n → ms[k]? = some m → ∃ m2, ms2[k]? = some m2 ∧ FrM n ms m m2
theorem Good.cut (g : Good K W G H ms) {ms2 : Ms} (kp : Keep n ms ms2) : Good K (cutW W H n) G H ms2 := by
  obtain ⟨hl, hn, hk⟩ := kp
  have tk : ∀ a ∈ W.ι.take n, a ∈ W.ι := fun a h => List.mem_of_mem_take h
  have nd2 : ∀ a ∈ W.ι.take n, a ∉ W.ι.drop n := fun a h1 h2 => by
    have := g.nd
    rw [← List.take_append_drop n W.ι] at this
    exact (List.nodup_append.mp this).2.2 a h1 a h2 rfl
  refine ⟨fun a o e => ?_, g.gd, ?_, ?_, fun a h => ?_, fun a h => g.nG a (tk a h), fun a o e => ?_, fun k a m h1 h2 => ?_⟩
  · have e' : (if a ∈ W.ι.drop n then H a else W.F a) = some o := e
    by_cases hm : a ∈ W.ι.drop n
    · rw [if_pos hm] at e'; exact e'
    · rw [if_neg hm] at e'; exact g.fz a o e'
  · show (W.ι.take n).length = ms2.length
    rw [List.length_take, g.ln, hl]; omega
  · exact g.nd.sublist (List.take_sublist _ _)
  · show (if a ∈ W.ι.drop n then H a else W.F a) = none
    rw [if_neg (nd2 a h)]
    exact g.nF a (tk a h)
  · show (if a ∈ W.ι.drop n then H a else W.F a) = none
    have hm : a ∉ W.ι.drop n := fun hm => by
      have := g.nG a (List.mem_of_mem_drop hm)
      rw [e] at this; cases this
    rw [if_neg hm]
    exact g.gF a o e
  · have hkn : k < n := by rw [← hl]; exact (List.getElem?_eq_some_iff.mp h2).1
    have h1' : W.ι[k]? = some a := by rw [← h1]; exact (List.getElem?_take_of_lt hkn).symm
    have hm : k < ms.length := by omega
    obtain ⟨m2, e2, f⟩ := hk k ms[k] hkn (List.getElem?_eq_getElem hm)
    rw [h2] at e2
    cases e2
    have old := g.cl k a ms[k] h1' (List.getElem?_eq_getElem hm)
    generalize hq : ms[k] = m0 at old f
    cases f with
    | lst f => obtain ⟨xs, e, r⟩ := old; exact ⟨xs, e, RepL.cut g f _ r⟩
    | dct f => obtain ⟨xs, e, r⟩ := old; exact ⟨xs, e, RepK.cut g f _ r⟩
    | ins f => obtain ⟨dx, xs, e, r⟩ := old; exact ⟨dx, xs, e, RepF.cut g f _ r⟩
theorem cut_le (g : Good K W G H ms) {W0 : Wd} (l : Le W0 W) (hn : W0.ι.length = n) : Le W0 (cutW W H n) := by
  refine ⟨?_, fun a o e => cut_old g (l.f a o e)⟩
  obtain ⟨t, ht⟩ := l.i
  have : W.ι.take n = W0.ι := by rw [← ht, ← hn, List.take_left]
  show W0.ι <+: W.ι.take n
  rw [this]
  exact List.prefix_rfl
end
end DL
namespace DL
open PySem PySem.Spec PyProof.Rows L2
def RetOk (n : Nat) (P : Dat → Ms → Prop) (d : Dat) (ms : Ms) : Prop := P d ms ∨ ∃ d2 ms2, Keep n ms ms2 ∧ Fr n ms d d2 ∧ P d2 ms2
def RetX (n : Nat) (X : XP) (C : Addr) (fs : List (Str × Dat)) (ms : Ms) : Prop := X C fs ms ∨ ∃ fs2 ms2, Keep n ms ms2 ∧ FrF n ms fs fs2 ∧ X C fs2 ms2
def bodyOut (n : Nat) (P : Dat → Ms → Prop) (X : XP) : Out where
  nx := fun _ ms => RetOk n P .non ms
  rt := RetOk n P
  ex := fun C fs _ ms => RetX n X C fs ms
def startE (N : List Str) (ds : List Dat) : Ev := ds.map some ++ List.replicate (N.length - ds.length) none
inductive MoBel (n : Nat) : MO → Prop
  | lst {xs : List Dat} : BelL n xs → MoBel n (.lst xs)
  | dct {xs : List (Key × Dat)} : BelL n (xs.map (·.2)) → MoBel n (.dct xs)
  | ins {C : Addr} {xs : List (Str × Dat)} : BelL n (xs.map (·.2)) → MoBel n (.ins C xs)
def MsBel (ms : Ms) : Prop := ∀ (k : Nat) m, ms[k]? = some m → MoBel ms.length m
section
variable {K : PySem.W.Frag} {W : Wd} {G H : Hp} {ms : Ms} {n : Nat} {P : Dat → Ms → Prop} {X : XP}
theorem Good.bel (g : Good K W G H ms) : MsBel ms := fun k m e => by
  have hk : k < W.ι.length := by rw [g.ln]; exact (List.getElem?_eq_some_iff.mp e).1
  have o := g.cl k W.ι[k] m (List.getElem?_eq_getElem hk) e
  rw [← g.ln]
  cases m with
  | lst ds => obtain ⟨_, _, r⟩ := o; exact .lst (RepL.bel _ _ r)
  | dct ds => obtain ⟨_, _, r⟩ := o; exact .dct (RepK.bel _ _ r)
  | ins C ds => obtain ⟨_, _, _, r⟩ := o; exact .ins (RepF.bel _ _ r)
theorem RtC.ret {Q : VK} (hn : W.ι.length = n) (k : RtC K W G P Q) : RtC K W G (RetOk n P) Q := fun W' v d H' ms' l g r q => by
  rcases q with q | ⟨d2, ms2, kp, f, q⟩
  · exact k W' v d H' ms' l g r q
  · exact k _ v d2 H' ms2 (cut_le g l hn) (g.cut kp) (Rep.cut g f v r) q
theorem ExC.ret {E : XK} (hn : W.ι.length = n) (k : ExC K W G X E) : ExC K W G (RetX n X) E := fun W' C d fs ds H' ms' l g f r q => by
  rcases q with q | ⟨d2, ms2, kp, ff, q⟩
  · exact k W' C d fs ds H' ms' l g f r q
  · exact k _ C d fs d2 H' ms2 (cut_le g l hn) (g.cut kp) (cut_old g f) (RepF.cut g ff _ r) q
theorem start_slots {N : List Str} : ∀ {vs : List V} {ds : List Dat}, RepL K W vs ds → Slots K W (L2.start N vs) (startE N ds) := fun {vs ds} r => by
  refine ⟨by unfold L2.start startE; simp [r.length], fun i d h => ?_⟩
  unfold startE at h
  by_cases hi : i < ds.length
  · rw [List.getElem?_append_left (by simpa using hi), List.getElem?_map] at h
    cases e : ds[i]? with
    | none => rw [e] at h; cases h
    | some x =>
      rw [e] at h; cases h
      obtain ⟨v, hv, rv⟩ := RepL.getD r i e
      refine ⟨v, ?_, rv⟩
      unfold L2.start
      rw [List.getElem?_append_left (by simpa [r.length] using hi), List.getElem?_map, hv]
      rfl
  · rw [List.getElem?_append_right (by simpa using hi), List.getElem?_replicate] at h
    split at h <;> cases h
/-- the body's word, spent on a call -/
theorem run_body {E : XK} {Q : VK} {t : TS} {N : List Str} {vs : List V} {ds : List Dat} (g : Good K W G H ms) (r : RepL K W vs ds) (kP : RtC K W G P Q) (kX : ExC K W G X E)
    (h : DS K (fun c d _ H => E c d H) t (startE N ds) ms (bodyOut ms.length P X)) : t { nx := fun _ H' => Q .non H', rt := Q } (L2.start N vs) H := by
  have kr := RtC.ret g.ln kP
  refine h W G _ H _ g (start_slots r) ⟨fun W' σ' e' H' ms' l g' s' q => kr W' .non .non H' ms' l g' .non q, kr, fun _ _ _ _ _ _ _ _ z => z.elim, fun _ _ _ _ _ _ _ _ z => z.elim, ?_⟩
  exact fun W' σ' e' C d fs ds H' ms' l g' s' f rr q => ExC.ret g.ln kX W' C d fs ds H' ms' l g' f rr q
end

/-! ### defs: promises kept while no repr is under way -/
structure Quiet (A : Around) : Prop where
  g : A.guards = some []
theorem Quiet.deeper {A : Around} (q : Quiet A) (env : Env) : Quiet (A.deeper env) := ⟨q.g⟩
theorem Quiet.mark {A : Around} (q : Quiet A) (h : Option Value) : Quiet (A.mark h) := ⟨q.g⟩
structure FnG (P : Program) (w : World) (K : PySem.W.Frag) (mg : Str → Option Value) (base : Heap) (cx : CXT) (k : Nat) (f : Addr) (fd : FuncData) (ps : List Str) (sp : Sp) : Prop where
  len : ∀ vs H Q E, sp vs H Q E → vs.length = ps.length
  go : ∀ (A : Around) (outer : List Env) (s : Shared) (H : Hp) (args : Args) (us : List Value) (vs : List V) (Q : VK) (E : XK),
    Room k A → Quiet A → Env0 P w K mg base A outer s H → BindsTo s fd args (ps.zip us) → Vals vs us → sp vs H Q E → codeAny (model P w) A (.call (.ref f) args) (CR cx outer P w H s Q E) s
/-- .. within an except suite -/
structure FnGH (P : Program) (w : World) (K : PySem.W.Frag) (mg : Str → Option Value) (base : Heap) (cx : CXT) (k : Nat) (f : Addr) (fd : FuncData) (ps : List Str) (sp : Sp) : Prop where
  len : ∀ vs H Q E, sp vs H Q E → vs.length = ps.length
  go : ∀ (A : Around) (outer : List Env) (s : Shared) (H : Hp) (args : Args) (us : List Value) (vs : List V) (Q : VK) (E : XK) (p : Addr × Obj),
    L2H.RoomH k A → Quiet A → L2H.Hot1 A p → L2H.PinOk outer H s p → Env0 P w K mg base A outer s H → BindsTo s fd args (ps.zip us) → Vals vs us → sp vs H Q E →
      codeAny (model P w) A (.call (.ref f) args) (CR cx outer P w H s Q E) s
section
variable {P : Program} {w : World} {K : PySem.W.Frag} {mg : Str → Option Value} {base : Heap} {cx : CXT} {k : Nat} {f : Addr} {fd : FuncData} {ps : List Str} {sp : Sp}
theorem FnG.mono {j : Nat} (F : FnG P w K mg base cx j f fd ps sp) (h : j ≤ k) : FnG P w K mg base cx k f fd ps sp :=
  ⟨F.len, fun A o s H a us vs Q E hr => F.go A o s H a us vs Q E (hr.mono h)⟩
theorem FnGH.mono {j : Nat} (F : FnGH P w K mg base cx j f fd ps sp) (h : j ≤ k) : FnGH P w K mg base cx k f fd ps sp :=
  ⟨F.len, fun A o s H a us vs Q E p hr => F.go A o s H a us vs Q E p (hr.mono h)⟩
theorem fnG_of (F : FnOk P w K mg base cx k f fd ps sp) : FnG P w K mg base cx k f fd ps sp := ⟨F.len, fun A o s H a us vs Q E hr _ => F.run A o s H a us vs Q E hr⟩
theorem fnGH_of (F : L2H.FnH P w K mg base cx k f fd ps sp) : FnGH P w K mg base cx k f fd ps sp := ⟨F.len, fun A o s H a us vs Q E p hr _ => F.run A o s H a us vs Q E p hr⟩
/-- how a body's flow ends the call -/
theorem flow_end {X : Cx} {outer : List Env} {s s' : Shared} {H : Hp} {Q : VK} {E : XK} {fl : Flow} (ho : X.fs = frs outer) (h0 : X.s_0 = s) (hH : X.H_0 = H) (hp : X.prog = P) (hw : X.w = w) (hx : X.ex = [])
    (h : SP X [] { nx := fun _ H' => Q .non H', rt := Q } fl s') : CR cx outer P w H s Q E (.ok (.ret (match (generalizing := false) fl with | .ret v => v | _ => .none))) s' := by
  have one : ∀ {σ' : L2.St} {H' : Hp} {v : V} {u : Value}, Inv X [] σ' H' s' → RelV v u → Q v H' → CE outer P w H s Q u s' := fun {σ' H' v u} J rv q => by
    have b := J.base
    rw [ho, h0, hH, hx] at b
    have o := J.os
    rw [h0] at o
    have k := J.hok
    rw [hp, hw] at k
    exact ⟨v, H', o, J.bare, b, k, rv, q⟩
  cases fl with
  | ret u => obtain ⟨v, σ', H', J, rv, q⟩ := h; exact one J rv q
  | next => obtain ⟨σ', H', J, q⟩ := h; exact one (v := .non) (u := .none) J rfl q
  | brk => obtain ⟨_, _, _, z⟩ := h; exact z.elim
  | cont => obtain ⟨_, _, _, z⟩ := h; exact z.elim
end
section
variable {P : Program} {w : World} {K : PySem.W.Frag} {mg : Str → Option Value} {base : Heap} {cx : CXT} {x qual : Str} {st : Stmt} {f : Addr} {fd : FuncData} {N ps : List Str} {k : Nat} {sp : Sp}
theorem enter_def {oc : Value} {od an : Option Addr} {osl : Array (Option Value)} {dV kV doc pm cdv ct : Value} {A : Around} {outer : List Env} {s : Shared} {H : Hp} {args : Args} {us : List Value} {R : Result → Shared → Prop} {pr : Arguments} {bd : List Stmt} {sc : Scope}
    (lk : K.lookup f = some ⟨oc, od, .func (PySem.W.fnOf x qual pr bd sc dV kV doc pm an cdv ct), osl⟩) (hcd : PySem.W.codeIn K cdv qual = true) (S : FnScope N ps sc) (hd : A.depth < recursionLimit)
    (e0 : Env0 P w K mg base A outer s H) (hb : BindsTo s (PySem.W.fnOf x qual pr bd sc dV kV doc pm an cdv ct) args (ps.zip us))
    (h : ∀ s1, InCallC s s.heap.objs.size (bindL (envOfC qual sc s.heap.objs.size f cdv).kindOf (ps.zip us) fun _ => none) (cellsFrom (s.heap.objs.size + 1) sc.names []) (bindC (envOfC qual sc s.heap.objs.size f cdv).kindOf (ps.zip us) fun _ => none) s1 →
      wpAny (model P w) (A.deeper (envOfC qual sc s.heap.objs.size f cdv)) (execs bd (envOfC qual sc s.heap.objs.size f cdv)) (fun fl s' => R (.ok (.ret (match fl with | .ret v => v | _ => .none))) s')
        (fun e s' => wpAny (model P w) (A.deeper (envOfC qual sc s.heap.objs.size f cdv)) (leaving (envOfC qual sc s.heap.objs.size f cdv) e) (fun _ s'' => R (.error e) s'') (fun e' s'' => R (.error e') s'') s') s1) :
    codeAny (model P w) A (.call (.ref f) args) R s := by
  have kin := e0.mod.kin.keeps fun b o e => (e0.bs b o e).1
  have lm : s.heap.NoLimit := e0.mod.nolimit.keeps fun b o e => (e0.bs b o e).1
  have kinds : ∀ y ∈ ps.zip us, sc.names.lookup y.1 = some .local ∨ (sc.names.lookup y.1 = some .cell ∧ ((cellsFrom (s.heap.objs.size + 1) sc.names []).lookup y.1).isSome = true) := by
    intro y hy
    obtain ⟨n, v⟩ := y
    rcases S.par n (List.of_mem_zip hy).1 with q | q
    · exact Or.inl q
    · exact Or.inr ⟨q, PySem.W.cellsFrom_some _ _ _ (Or.inl q)⟩
  apply codeAny_call_function hd (kin _ _ lk) rfl S.co S.gen rfl (PySem.W.codeRec_of kin hcd)
  apply hb
  apply wpAny_newFunctionEnv_cells S.kind kinds
  intro env he s1 ic
  cases he
  exact ⟨lm.keeps ic.toInCall.keep, codeAny_func (h s1 ic)⟩
/-- a def keeps its promise, called where nothing is handled -/
theorem fn_dl {A : Pm} (F : Fun K x qual st f fd) (S : FnScope N ps (defScope st)) (hlen : ∀ ds ms P X, A ds ms P X → ds.length = ps.length)
    (hb : ∀ (cdv : Value) (Ar : Around) (outer : List Env) (s : Shared) (H : Hp) (E : XK), Room k (Ar.deeper (envOfC qual (defScope st) s.heap.objs.size f cdv)) → Quiet (Ar.deeper (envOfC qual (defScope st) s.heap.objs.size f cdv)) →
      ∃ t, PSs (cxOf (L2N.CX P w) P w K mg base N qual (defScope st) f cdv Ar outer s H E) (defBody st) t ∧
        ∀ ds ms Pd X, A ds ms Pd X → BelL ms.length ds → MsBel ms → DS K (fun c d _ H => E c d H) t (startE N ds) ms (bodyOut ms.length Pd X)) :
    FnG P w K mg base (L2N.CX P w) (k + 1) f fd ps (spD K A) := by
  obtain ⟨oc, od, kV, doc, pm, an, cdv, ct, osl, e, lk, hcd⟩ := F.ex
  subst e
  refine ⟨fun vs H Q E h => ?_, fun Ar outer s H args us vs Q E hr hq e0 hbd r hsp => ?_⟩
  · obtain ⟨W, G, ms, ds, Pd, X, _, r, a, _⟩ := h
    rw [r.length]; exact hlen ds ms Pd X a
  · obtain ⟨W, G, ms, ds, Pd, X, g, rl, a, kP, kX⟩ := hsp
    obtain ⟨t, ht, hd⟩ := hb cdv Ar outer s H E (hr.deeper _) (hq.deeper _)
    have b := RepL.bel ds vs rl
    rw [g.ln] at b
    have hl : vs.length = ps.length := by rw [rl.length]; exact hlen ds ms Pd X a
    refine enter_def lk hcd S hr.depth e0 hbd fun s1 ic => ?_
    have I := inv_start (CX := L2N.CX P w) (E := E) S hr.hd e0 hl r ic
    exact wpAny_mono (ht.run [] s1 _ H _ I (run_body g rl kP kX (hd ds ms Pd X a b g.bel))) (fun fl s' z => flow_end rfl rfl rfl rfl rfl rfl z) fun _ _ z => z
/-- .. called within an except suite -/
theorem fn_dlH {A : Pm} (F : Fun K x qual st f fd) (S : FnScope N ps (defScope st)) (hlen : ∀ ds ms P X, A ds ms P X → ds.length = ps.length)
    (hb : ∀ (cdv : Value) (Ar : Around) (outer : List Env) (s : Shared) (H : Hp) (E : XK) (p : Addr × Obj), L2H.Hot1 Ar p → L2H.RoomH k (Ar.deeper (envOfC qual (defScope st) s.heap.objs.size f cdv)) → Quiet (Ar.deeper (envOfC qual (defScope st) s.heap.objs.size f cdv)) →
      ∃ t, PSs (L2H.cxH (L2N.CX P w) P w K mg base N qual (defScope st) f cdv Ar outer s H E p) (defBody st) t ∧
        ∀ ds ms Pd X, A ds ms Pd X → BelL ms.length ds → MsBel ms → DS K (fun c d _ H => E c d H) t (startE N ds) ms (bodyOut ms.length Pd X)) :
    FnGH P w K mg base (L2N.CX P w) (k + 1) f fd ps (spD K A) := by
  obtain ⟨oc, od, kV, doc, pm, an, cdv, ct, osl, e, lk, hcd⟩ := F.ex
  subst e
  refine ⟨fun vs H Q E h => ?_, fun Ar outer s H args us vs Q E p hr hq hot hpin e0 hbd r hsp => ?_⟩
  · obtain ⟨W, G, ms, ds, Pd, X, _, r, a, _⟩ := h
    rw [r.length]; exact hlen ds ms Pd X a
  · obtain ⟨W, G, ms, ds, Pd, X, g, rl, a, kP, kX⟩ := hsp
    obtain ⟨t, ht, hd⟩ := hb cdv Ar outer s H E p hot (hr.deeper _) (hq.deeper _)
    have b := RepL.bel ds vs rl
    rw [g.ln] at b
    have hl : vs.length = ps.length := by rw [rl.length]; exact hlen ds ms Pd X a
    refine enter_def lk hcd S hr.depth e0 hbd fun s1 ic => ?_
    have I := L2H.inv_startH (CX := L2N.CX P w) (E := E) S hpin e0 hl r ic
    exact wpAny_mono (ht.run [] s1 _ H _ I (run_body g rl kP kX (hd ds ms Pd X a b g.bel))) (fun fl s' z => flow_end rfl rfl rfl rfl rfl rfl z) fun _ _ z => z
end
/-! ### the call of such a def -/
section
variable {X : Cx} {cx : CXT} {k : Nat} {f : Addr} {fd : FuncData} {ps : List Str} {sp : Sp} {E : L2.St → XK} {x : Str} {p pos : Pos} {e : Expr} {es : List Expr} {t : TA} {ds : List Value} {dvs : List V}
theorem go_fn {pins : List (Addr × Obj)} {σ : L2.St} {H : Hp} {s : Shared} {Q : VK} {us : List Value} {vs : List V} (F : FnG X.prog X.w X.K X.mg X.base cx k f fd ps sp) (hr : Room k X.A) (hq : Quiet X.A) (hb : Binds X.K fd ps ds) (hd : Vals dvs ds) (hx : PassesAt cx X σ (E σ))
    (I : Inv X pins σ H s) (r : Vals vs us) (h : sp (vs ++ dvs) H Q (E σ)) : wpAny (model X.prog X.w) X.A (call (.ref f) us) (EP X pins σ Q) X.xe s := by
  have rr := r.append hd
  have n : (us ++ ds).length = ps.length := rr.length.symm.trans (F.len _ _ _ _ h)
  refine wpAny_call (codeAny_mono (F.go X.A X.stack s H ⟨us, []⟩ _ _ Q (E σ) hr hq I.env0 (hb s us I.kIn n) rr h) fun z s' hz => ?_)
  match z, hz with
  | .error er, hz => exact hx pins H s er s' I hz
  | .ok (.ret u), hz => exact I.after hz
  | .ok .next, hz => exact hz.elim
  | .ok .brk, hz => exact hz.elim
  | .ok .cont, hz => exact hz.elim
def tCallD (sp : Sp) (dvs : List V) (E : L2.St → XK) (t : TA) : TE := fun σ H Q => t σ H fun vs H1 => sp (vs ++ dvs) H1 Q (E σ)
/-- f(e, ..), defaults behind -/
theorem pe_g (F : FnG X.prog X.w X.K X.mg X.base cx k f fd ps sp) (hr : Room k X.A) (hq : Quiet X.A) (hg : Gl X x) (hm : X.mg x = some (.ref f)) (hk : PySem.W.keepIn X.K (.ref f) = true) (hb : Binds X.K fd ps ds) (hd : Vals dvs ds) (hx : ∀ σ, PassesAt cx X σ (E σ))
    (ha : PA X (e :: es) t) (hdb : (x == ("__debug__" : Str)) = false := by decide) (he : starEach (e :: es) X.env = (false, eval e X.env) :: starEach es X.env := by rfl) (hpl : (backTo pos (starEach es X.env)).any (·.1) = false := by rfl) :
    PE X (.Call (.Name x p) (e :: es) [] pos) (tCallD sp dvs E t) := ⟨fun pins s σ H Q I h =>
  wpAny_Call_Name_kw (ld_glob I hg hm (PySem.W.callWith_K (h₀ := X.base) I.ok.mod.kin hk (thn (ha.run pos pins s σ H _ I h) fun us s1 ⟨vs, H1, I1, r, q⟩ => ⟨I1.kIn, go_fn F hr hq hb hd (hx σ) I1 r q⟩) he hpl) hdb)⟩
theorem pe_g0 (F : FnG X.prog X.w X.K X.mg X.base cx k f fd ps sp) (hr : Room k X.A) (hq : Quiet X.A) (hg : Gl X x) (hm : X.mg x = some (.ref f)) (hk : PySem.W.keepIn X.K (.ref f) = true) (hb : Binds X.K fd ps ds) (hd : Vals dvs ds) (hx : ∀ σ, PassesAt cx X σ (E σ))
    (hdb : (x == ("__debug__" : Str)) = false := by decide) : PE X (.Call (.Name x p) [] [] pos) (tCallD sp dvs E tNil) := ⟨fun pins s σ H Q I h =>
  wpAny_Call_Name_kw (ld_glob I hg hm (PySem.W.callWith_K0 I.kIn hk (go_fn (us := []) F hr hq hb hd (hx σ) I .nil h)) hdb)⟩
/-- .. within an except suite -/
theorem go_fnH {pins : List (Addr × Obj)} {σ : L2.St} {H : Hp} {s : Shared} {Q : VK} {us : List Value} {vs : List V} (F : FnGH X.prog X.w X.K X.mg X.base cx k f fd ps sp) (hr : L2H.RoomH k X.A) (hq : Quiet X.A) (hc : L2H.HotC X) (hb : Binds X.K fd ps ds) (hd : Vals dvs ds) (hx : PassesAt cx X σ (E σ))
    (I : Inv X pins σ H s) (r : Vals vs us) (h : sp (vs ++ dvs) H Q (E σ)) : wpAny (model X.prog X.w) X.A (call (.ref f) us) (EP X pins σ Q) X.xe s := by
  have rr := r.append hd
  have n : (us ++ ds).length = ps.length := rr.length.symm.trans (F.len _ _ _ _ h)
  obtain ⟨p, hot, hp⟩ := hc
  obtain ⟨p1, p2, p3, p4, p5⟩ := I.pin p (List.mem_append.mpr (.inl hp))
  have hpin : L2H.PinOk X.stack H s p := ⟨p1, p2, fun z => by
    rcases List.mem_cons.mp (I.stkSub p.1 z) with z | z
    · exact p3 z
    · exact p4 z, p5⟩
  refine wpAny_call (codeAny_mono (F.go X.A X.stack s H ⟨us, []⟩ _ _ Q (E σ) p hr hq hot hpin I.env0 (hb s us I.kIn n) rr h) fun z s' hz => ?_)
  match z, hz with
  | .error er, hz => exact hx pins H s er s' I hz
  | .ok (.ret u), hz => exact I.after hz
  | .ok .next, hz => exact hz.elim
  | .ok .brk, hz => exact hz.elim
  | .ok .cont, hz => exact hz.elim
theorem pe_gH (F : FnGH X.prog X.w X.K X.mg X.base cx k f fd ps sp) (hr : L2H.RoomH k X.A) (hq : Quiet X.A) (hc : L2H.HotC X) (hg : Gl X x) (hm : X.mg x = some (.ref f)) (hk : PySem.W.keepIn X.K (.ref f) = true) (hb : Binds X.K fd ps ds) (hd : Vals dvs ds) (hx : ∀ σ, PassesAt cx X σ (E σ))
    (ha : PA X (e :: es) t) (hdb : (x == ("__debug__" : Str)) = false := by decide) (he : starEach (e :: es) X.env = (false, eval e X.env) :: starEach es X.env := by rfl) (hpl : (backTo pos (starEach es X.env)).any (·.1) = false := by rfl) :
    PE X (.Call (.Name x p) (e :: es) [] pos) (tCallD sp dvs E t) := ⟨fun pins s σ H Q I h =>
  wpAny_Call_Name_kw (ld_glob I hg hm (PySem.W.callWith_K (h₀ := X.base) I.ok.mod.kin hk (thn (ha.run pos pins s σ H _ I h) fun us s1 ⟨vs, H1, I1, r, q⟩ => ⟨I1.kIn, go_fnH F hr hq hc hb hd (hx σ) I1 r q⟩) he hpl) hdb)⟩
theorem passN {X : Cx} (σ : L2.St) : PassesAt (L2N.CX X.prog X.w) X σ E0 := fun _ _ _ _ _ _ h => by
  obtain ⟨_, _, _, _, _, _, _, _, _, _, _, _, z⟩ := h
  exact z.elim
end
section
variable {K : PySem.W.Frag} {R : WX} {e : Ev} {ms : Ms} {tA : TA} {P : Dat → Ms → Prop} {X : XP} {A : Pm} {dvs : List V} {dds : List Dat}
/-- f(..) over data; dds: the defaults -/
theorem de_g (hd : ∀ W : Wd, RepL K W dvs dds) (h : DA K R tA e ms (fun ds m => A (ds ++ dds) m P X) X) : DE K R (tCallD (spD K A) dvs (WE R) tA) e ms P X := fun W G σ H Q g s k x =>
  h W G σ H _ g s (fun W1 vs ds H1 m1 l1 g1 r1 a => ⟨W1, G, m1, ds ++ dds, P, X, g1, repL_append r1 (hd W1), a, k.le l1, x.le l1⟩) x
where
  repL_append {W : Wd} : ∀ {vs ws : List V} {ds es : List Dat}, RepL K W vs ds → RepL K W ws es → RepL K W (vs ++ ws) (ds ++ es)
    | _, _, [], _, h, r => by cases h; exact r
    | _, _, d :: ds, _, h, r => by cases h with | cons a b => exact .cons a (repL_append b r)
/-- .. nothing is let out -/
theorem de_g0 (hd : ∀ W : Wd, RepL K W dvs dds) (h : DA K R tA e ms (fun ds m => A (ds ++ dds) m P (fun _ _ _ => False)) X) : DE K R (tCallD (spD K A) dvs (fun _ => E0) tA) e ms P X := fun W G σ H Q g s k x =>
  h W G σ H _ g s (fun W1 vs ds H1 m1 l1 g1 r1 a => ⟨W1, G, m1, ds ++ dds, P, fun _ _ _ => False, g1, de_g.repL_append r1 (hd W1), a, k.le l1, fun _ _ _ _ _ _ _ _ _ _ _ z => z.elim⟩) x
end
end DL
namespace DL
open PySem PySem.Spec PyProof.Rows L2
/-! ### one rule of several -/
section
variable {Xc : Cx}
theorem orR {f : Value → Value → Sem Value} {r r' : R2} (h : OpR Xc f r) (h' : OpR Xc f r') : OpR Xc f (fun x y H Q => r x y H Q ∨ r' x y H Q) := by
  intro pins s σ H x y v u Q I rx ry q
  rcases q with q | q
  · exact h pins s σ H x y v u Q I rx ry q
  · exact h' pins s σ H x y v u Q I rx ry q
theorem orC {f : Value} {r r' : List V → Hp → VK → Prop} (h : CallR Xc f r) (h' : CallR Xc f r') : CallR Xc f (fun xs H Q => r xs H Q ∨ r' xs H Q) := by
  intro pins s σ H xs us Q I r q
  rcases q with q | q
  · exact h pins s σ H xs us Q I r q
  · exact h' pins s σ H xs us Q I r q
def rStrAdd : R2 := fun x y H Q => ∃ i j, x = .str i ∧ y = .str j ∧ i.length + j.length ≤ sizeLine ∧ Q (.str (i ++ j)) H
def rAddA : R2 := fun x y H Q => rI0 (fun i j => .int (i + j)) x y H Q ∨ (rStrAdd x y H Q ∨ rCat x y H Q)
theorem op_addA : OpR Xc (binaryOp .Add) rAddA := orR op_add (orR op_add_str op_cat)
def rCmpS (p : Str → Str → Bool) : R2 := fun x y H Q => ∃ i j, x = .str i ∧ y = .str j ∧ Q (.bl (p i j)) H
def rLeA : R2 := fun x y H Q => rI0 (fun i j => .bl (decide (i ≤ j))) x y H Q ∨ rCmpS (fun i j => !decide (j.cps.toList < i.cps.toList)) x y H Q
theorem op_leA : OpR Xc (compareOp .LtE) rLeA := orR op_le op_le_str
def rLtA : R2 := fun x y H Q => rI0 (fun i j => .bl (decide (i < j))) x y H Q ∨ rCmpS (fun i j => decide (i.cps.toList < j.cps.toList)) x y H Q
theorem op_ltA : OpR Xc (compareOp .Lt) rLtA := orR op_lt op_lt_str
def rGeI : R2 := rI0 fun i j => .bl (decide (j ≤ i))
def rGtI : R2 := rI0 fun i j => .bl (decide (j < i))
theorem op_geA : OpR Xc (compareOp .GtE) rGeI := op_ge
theorem op_gtA : OpR Xc (compareOp .Gt) rGtI := op_gt
def rEqA (K : PySem.W.Frag) : R2 := fun x y H Q => rEq x y H Q ∨ rEqD K x y H Q
def rNeA (K : PySem.W.Frag) : R2 := fun x y H Q => rNe x y H Q ∨ rNeD K x y H Q
theorem op_eqA (hu : Xc.A.units + 64 < cLine) : OpR Xc (compareOp .Eq) (rEqA Xc.K) := orR op_eq (op_eqD hu)
theorem op_neA (hu : Xc.A.units + 64 < cLine) : OpR Xc (compareOp .NotEq) (rNeA Xc.K) := orR op_ne (op_neD hu)
def rInStr (neg : Bool) : R2 := fun x y H Q => ∃ i j, x = .str i ∧ y = .str j ∧ Q (.bl (if neg then !(!(Builtin.Str.occurrences j i 0 j.length 1).isEmpty) else !(Builtin.Str.occurrences j i 0 j.length 1).isEmpty)) H
def rInA (K : PySem.W.Frag) : R2 := fun x y H Q => rInS x y H Q ∨ rIn K false x y H Q
def rNotInA (K : PySem.W.Frag) : R2 := fun x y H Q => rNotInS x y H Q ∨ rIn K true x y H Q
theorem op_inA : OpR Xc (compareOp .In) (rInA Xc.K) := orR op_inS op_in_seq
theorem op_notInA : OpR Xc (compareOp .NotIn) (rNotInA Xc.K) := orR op_notInS op_notIn_seq
def rIsA : R2 := fun x y H Q => rIsN x y H Q ∨ rIsB x y H Q
def rNotA : R2 := fun x y H Q => rNotN x y H Q ∨ rNotB x y H Q
theorem op_isA : OpR Xc (compareOp .Is) rIsA := orR op_isN1 op_isBl
theorem op_notA : OpR Xc (compareOp .IsNot) rNotA := orR op_notN1 op_notBl
def rSubI : R2 := rI0 fun i j => .int (i - j)
theorem op_subA : OpR Xc (binaryOp .Sub) rSubI := op_sub
def rMulI : R2 := rI CMulW fun i j => .int (i * j)
theorem op_mulA : OpR Xc (binaryOp .Mult) rMulI := op_mulW
def rModI : R2 := rI (fun _ j => 0 < j) fun i j => .int (i % j)
theorem op_modA : OpR Xc (binaryOp .Mod) rModI := op_mod
def rDivI : R2 := rI CDivW fun i j => .int (i / j)
theorem op_divA : OpR Xc (binaryOp .FloorDiv) rDivI := op_fdivW
def rPowI : R2 := rI CPow fun i j => .int (i ^ j.toNat)
theorem op_powA : OpR Xc (binaryOp .Pow) rPowI := op_pow
end
section
variable {K : PySem.W.Frag} {ms : Ms} {P : Dat → Ms → Prop}
/-! ### operators by data -/
theorem d2_intI0 {g : Int → Int → V} {h : Int → Int → Dat} (hg : ∀ (W : Wd) i j, Rep K W (g i j) (h i j)) {i j : Int} (q : P (h i j) ms) : D2 K (rI0 g) (.int i) (.int j) ms P := fun W G H v w Q gd rx ry k => by
  cases rx; cases ry
  exact ⟨i, j, rfl, rfl, k W _ _ H ms (Le.refl W) gd (hg W i j) q⟩
theorem d2_intI {C : Int → Int → Prop} {g : Int → Int → V} {h : Int → Int → Dat} (hg : ∀ (W : Wd) i j, Rep K W (g i j) (h i j)) {i j : Int} (hc : C i j) (q : P (h i j) ms) : D2 K (rI C g) (.int i) (.int j) ms P := fun W G H v w Q gd rx ry k => by
  cases rx; cases ry
  exact ⟨i, j, rfl, rfl, hc, k W _ _ H ms (Le.refl W) gd (hg W i j) q⟩
theorem D2.inl {r r' : R2} {x y : Dat} (h : D2 K r x y ms P) : D2 K (fun x y H Q => r x y H Q ∨ r' x y H Q) x y ms P := fun W G H v w Q gd rx ry k => .inl (h W G H v w Q gd rx ry k)
theorem D2.inr {r r' : R2} {x y : Dat} (h : D2 K r' x y ms P) : D2 K (fun x y H Q => r x y H Q ∨ r' x y H Q) x y ms P := fun W G H v w Q gd rx ry k => .inr (h W G H v w Q gd rx ry k)
theorem d2_addI {i j : Int} (q : P (.int (i + j)) ms) : D2 K rAddA (.int i) (.int j) ms P := D2.inl (d2_intI0 (h := fun i j => .int (i + j)) (fun _ _ _ => .int _) q)
theorem d2_addS {i j : Str} (hl : i.length + j.length ≤ 1000000) (q : P (.str (i ++ j)) ms) : D2 K rAddA (.str i) (.str j) ms P := D2.inr (D2.inl fun W G H v w Q gd rx ry k => by
  cases rx; cases ry
  exact ⟨i, j, rfl, rfl, size_of hl, k W _ _ H ms (Le.refl W) gd (.str _) q⟩)
theorem repL_app {W : Wd} {vs ws : List V} {ds es : List Dat} (a : RepL K W vs ds) (b : RepL K W ws es) : RepL K W (vs ++ ws) (ds ++ es) := de_g.repL_append a b
theorem d2_addL {xs ys : List Dat} (hl : xs.length + ys.length ≤ 1000000) (q : P (.lst (xs ++ ys)) ms) : D2 K rAddA (.lst xs) (.lst ys) ms P := D2.inr (D2.inr fun W G H v w Q gd rx ry k => by
  cases rx with
  | lst e1 r1 => cases ry with
    | lst e2 r2 =>
      refine ⟨_, _, _, _, rfl, rfl, gd.fz _ _ e1, gd.fz _ _ e2, by rw [r1.length, r2.length]; exact size_of hl, fun p hp => ?_⟩
      obtain ⟨g2, l2⟩ := gd.laid (o := .lst _) hp
      exact k _ _ _ _ _ l2 g2 (.lst upd_same (RepL.mono l2 _ _ (repL_app r1 r2))) q)
theorem d2_leI {i j : Int} (q : P (.bl (decide (i ≤ j))) ms) : D2 K rLeA (.int i) (.int j) ms P := D2.inl (d2_intI0 (h := fun i j => .bl (decide (i ≤ j))) (fun _ _ _ => .bl _) q)
theorem d2_ltI {i j : Int} (q : P (.bl (decide (i < j))) ms) : D2 K rLtA (.int i) (.int j) ms P := D2.inl (d2_intI0 (h := fun i j => .bl (decide (i < j))) (fun _ _ _ => .bl _) q)
theorem d2_geI {i j : Int} (q : P (.bl (decide (j ≤ i))) ms) : D2 K rGeI (.int i) (.int j) ms P := d2_intI0 (h := fun i j => .bl (decide (j ≤ i))) (fun _ _ _ => .bl _) q
theorem d2_gtI {i j : Int} (q : P (.bl (decide (j < i))) ms) : D2 K rGtI (.int i) (.int j) ms P := d2_intI0 (h := fun i j => .bl (decide (j < i))) (fun _ _ _ => .bl _) q
theorem d2_cmpS {p : Str → Str → Bool} {i j : Str} (q : P (.bl (p i j)) ms) : D2 K (rCmpS p) (.str i) (.str j) ms P := fun W G H v w Q gd rx ry k => by
  cases rx; cases ry
  exact ⟨i, j, rfl, rfl, k W _ _ H ms (Le.refl W) gd (.bl _) q⟩
theorem d2_leS {i j : Str} (q : P (.bl (!decide (j.cps.toList < i.cps.toList))) ms) : D2 K rLeA (.str i) (.str j) ms P := D2.inr (d2_cmpS q)
theorem d2_ltS {i j : Str} (q : P (.bl (decide (i.cps.toList < j.cps.toList))) ms) : D2 K rLtA (.str i) (.str j) ms P := D2.inr (d2_cmpS q)
theorem d2_sub {i j : Int} (q : P (.int (i - j)) ms) : D2 K rSubI (.int i) (.int j) ms P := d2_intI0 (h := fun i j => .int (i - j)) (fun _ _ _ => .int _) q
theorem d2_mul {i j : Int} (hc : i.natAbs.log2 + j.natAbs.log2 < 1000000) (q : P (.int (i * j)) ms) : D2 K rMulI (.int i) (.int j) ms P := d2_intI (h := fun i j => .int (i * j)) (fun _ _ _ => .int _) hc q
theorem d2_mod {i j : Int} (hc : 0 < j) (q : P (.int (i % j)) ms) : D2 K rModI (.int i) (.int j) ms P := d2_intI (h := fun i j => .int (i % j)) (fun _ _ _ => .int _) hc q
theorem d2_div {i j : Int} (hc : 0 < j ∧ j.natAbs.log2 < 9000) (q : P (.int (i / j)) ms) : D2 K rDivI (.int i) (.int j) ms P := d2_intI (h := fun i j => .int (i / j)) (fun _ _ _ => .int _) hc q
theorem d2_pow {i j : Int} (hc : 0 ≤ j ∧ j ≤ 1000000 ∧ i.natAbs < 2 ^ 64) (q : P (.int (i ^ j.toNat)) ms) : D2 K rPowI (.int i) (.int j) ms P := d2_intI (h := fun i j => .int (i ^ j.toNat)) (fun _ _ _ => .int _) hc q
/-- is None | is True | is False -/
def isNon : Dat → Bool
  | .non => true
  | _ => false
theorem rep_non {W : Wd} {v : V} {d : Dat} (r : Rep K W v d) : decide (v = V.non) = isNon d := by cases r <;> first | rfl | exact decide_eq_false (fun z => nomatch z)
theorem d2_isN {x : Dat} (q : P (.bl (isNon x)) ms) : D2 K rIsA x .non ms P := fun W G H v w Q gd rx ry k => by
  cases ry
  exact .inl ⟨rfl, by rw [rep_non rx]; exact k W _ _ H ms (Le.refl W) gd (.bl _) q⟩
theorem d2_notN {x : Dat} (q : P (.bl (!isNon x)) ms) : D2 K rNotA x .non ms P := fun W G H v w Q gd rx ry k => by
  cases ry
  exact .inl ⟨rfl, by rw [rep_non rx]; exact k W _ _ H ms (Le.refl W) gd (.bl _) q⟩
theorem d2_isB {a b : Bool} (q : P (.bl (decide (a = b))) ms) : D2 K rIsA (.bl a) (.bl b) ms P := fun W G H v w Q gd rx ry k => by
  cases rx; cases ry
  exact .inr ⟨a, b, rfl, rfl, k W _ _ H ms (Le.refl W) gd (.bl _) q⟩
/-! ### == over data -/
mutual
inductive PyD : Dat → PyData → Prop
  | non : PyD .non .none
  | bl (b : Bool) : PyD (.bl b) (.bool b)
  | int (i : Int) : PyD (.int i) (.int i)
  | str (x : Str) : PyD (.str x) (.str x)
  | lst {xs : List Dat} {ys : List PyData} : PyDL xs ys → PyD (.lst xs) (.list ys)
  | rol {xs : List Dat} {ys : List PyData} : PyDL xs ys → PyD (.rol xs) (.list ys)
  | tup {xs : List Dat} {ys : List PyData} : PyDL xs ys → PyD (.tup xs) (.tuple ys)
inductive PyDL : List Dat → List PyData → Prop
  | nil : PyDL [] []
  | cons {x : Dat} {y : PyData} {xs : List Dat} {ys : List PyData} : PyD x y → PyDL xs ys → PyDL (x :: xs) (y :: ys)
end
mutual
theorem dp_of {W : Wd} {H : Hp} (s : Same W.F H) {d : Dat} {p : PyData} : ∀ (h : PyD d p) (v : V), Rep K W v d → Dp K H v p
  | .non, _, r => by cases r; exact .non
  | .bl b, _, r => by cases r; exact .bl b
  | .int b, _, r => by cases r; exact .int b
  | .str b, _, r => by cases r; exact .str b
  | .lst h, _, r => by cases r with | lst e r => exact .lst (.inl (.inl (s _ _ e))) (dpl_of s h _ r)
  | .rol h, _, r => by cases r with | rol e r => exact .lst (s.seq e) (dpl_of s h _ r)
  | .tup h, _, r => by cases r with | tup e r => exact .tup (Same.tup s e) (dpl_of s h _ r)
theorem dpl_of {W : Wd} {H : Hp} (s : Same W.F H) {ds : List Dat} {ps : List PyData} : ∀ (h : PyDL ds ps) (vs : List V), RepL K W vs ds → DpAll K H vs ps
  | .nil, _, r => by cases r; exact .nil
  | .cons a b, _, r => by cases r with | cons x y => exact .cons (dp_of s a _ x) (dpl_of s b _ y)
end
theorem d2_eqD {x y : Dat} {p p' : PyData} (hx : PyD x p) (hy : PyD y p') (s : SeqAt.shaped p = true) (s' : SeqAt.shaped p' = true) (q : P (.bl (PyData.eqv p p')) ms) : D2 K (rEqA K) x y ms P := fun W G H v w Q gd rx ry k =>
  .inr ⟨p, p', dp_of gd.fz hx v rx, dp_of gd.fz hy w ry, s, s', k W _ _ H ms (Le.refl W) gd (.bl _) q⟩
theorem d2_neD {x y : Dat} {p p' : PyData} (hx : PyD x p) (hy : PyD y p') (s : SeqAt.shaped p = true) (s' : SeqAt.shaped p' = true) (q : P (.bl (!PyData.eqv p p')) ms) : D2 K (rNeA K) x y ms P := fun W G H v w Q gd rx ry k =>
  .inr ⟨p, p', dp_of gd.fz hx v rx, dp_of gd.fz hy w ry, s, s', k W _ _ H ms (Le.refl W) gd (.bl _) q⟩
theorem d2_eqI {i j : Int} (q : P (.bl (decide (i = j))) ms) : D2 K (rEqA K) (.int i) (.int j) ms P := fun W G H v w Q gd rx ry k => by
  cases rx; cases ry
  refine .inl ⟨rfl, k W _ _ H ms (Le.refl W) gd (.bl _) ?_⟩
  rw [show decide (V.int i = V.int j) = decide (i = j) from decide_eq_decide.mpr ⟨V.int.inj, fun z => by rw [z]⟩]
  exact q
theorem d2_eqS {i j : Str} (q : P (.bl (decide (i = j))) ms) : D2 K (rEqA K) (.str i) (.str j) ms P := fun W G H v w Q gd rx ry k => by
  cases rx; cases ry
  refine .inl ⟨rfl, k W _ _ H ms (Le.refl W) gd (.bl _) ?_⟩
  rw [show decide (V.str i = V.str j) = decide (i = j) from decide_eq_decide.mpr ⟨V.str.inj, fun z => by rw [z]⟩]
  exact q
theorem d2_neS {i j : Str} (q : P (.bl (!decide (i = j))) ms) : D2 K (rNeA K) (.str i) (.str j) ms P := fun W G H v w Q gd rx ry k => by
  cases rx; cases ry
  refine .inl ⟨rfl, k W _ _ H ms (Le.refl W) gd (.bl _) ?_⟩
  rw [show decide (V.str i = V.str j) = decide (i = j) from decide_eq_decide.mpr ⟨V.str.inj, fun z => by rw [z]⟩]
  exact q
theorem d2_neI {i j : Int} (q : P (.bl (!decide (i = j))) ms) : D2 K (rNeA K) (.int i) (.int j) ms P := fun W G H v w Q gd rx ry k => by
  cases rx; cases ry
  refine .inl ⟨rfl, k W _ _ H ms (Le.refl W) gd (.bl _) ?_⟩
  rw [show decide (V.int i = V.int j) = decide (i = j) from decide_eq_decide.mpr ⟨V.int.inj, fun z => by rw [z]⟩]
  exact q
/-- one sign in a text -/
theorem d2_inS {c : Nat} {z : Str} (q : P (.bl (decide (c ∈ z.cps.toList))) ms) : D2 K (rInA K) (.str (sign1 c)) (.str z) ms P := fun W G H v w Q gd rx ry k => by
  cases rx; cases ry
  exact .inl ⟨c, z, rfl, rfl, k W _ _ H ms (Le.refl W) gd (.bl _) q⟩
theorem d2_notInS {c : Nat} {z : Str} (q : P (.bl (!decide (c ∈ z.cps.toList))) ms) : D2 K (rNotInA K) (.str (sign1 c)) (.str z) ms P := fun W G H v w Q gd rx ry k => by
  cases rx; cases ry
  exact .inl ⟨c, z, rfl, rfl, k W _ _ H ms (Le.refl W) gd (.bl _) q⟩
/-! ### places -/
theorem atI_rep {W : Wd} {vs : List V} {ds : List Dat} (r : RepL K W vs ds) {i : Int} {d : Dat} (h : atI ds i = some d) : ∃ v, atI vs i = some v ∧ Rep K W v d := by
  unfold atI at h ⊢
  rw [r.length]
  cases e : ixN ds.length i with
  | none => rw [e] at h; cases h
  | some j =>
    rw [e] at h
    exact RepL.getD r j (by simpa using h)
/-- what is read as a list or tuple -/
def SeqV (ms : Ms) (x : Dat) (xs : List Dat) : Prop := x = .lst xs ∨ x = .tup xs ∨ x = .rol xs ∨ ∃ k, x = .cell k ∧ ms[k]? = some (.lst xs)
theorem seq_rep {W : Wd} {G H : Hp} {v : V} {x : Dat} {xs : List Dat} (g : Good K W G H ms) (r : Rep K W v x) (s : SeqV ms x xs) : ∃ a vs, v = .ref a ∧ (SqL K H a vs ∨ SqT K H a vs) ∧ RepL K W vs xs := by
  rcases s with s | s | s | ⟨k, s, e⟩ <;> subst s
  · cases r with | lst e r => exact ⟨_, _, rfl, .inl (.inl (.inl (g.fz _ _ e))), r⟩
  · cases r with | tup e r => exact ⟨_, _, rfl, .inr (Same.tup g.fz e), r⟩
  · cases r with | rol e r => exact ⟨_, _, rfl, .inl (g.fz.seq e), r⟩
  · cases r with
    | cell e2 =>
      obtain ⟨vs, h1, h2⟩ := (show MoOk K W H _ (.lst xs) from g.cl _ _ _ e2 e)
      exact ⟨_, vs, rfl, .inl (SqL.of h1), h2⟩
theorem d2_ix {x d : Dat} {xs : List Dat} {i : Int} (s : SeqV ms x xs) (h : atI xs i = some d) (q : P d ms) : D2 K (rIx K) x (.int i) ms P := fun W G H v w Q gd rx ry k => by
  cases ry
  obtain ⟨a, vs, rfl, hq, rl⟩ := seq_rep gd rx s
  obtain ⟨u, hu, ru⟩ := atI_rep rl h
  rcases hq with hq | hq
  · exact .inl ⟨a, vs, i, u, rfl, rfl, hq, hu, k W _ _ H ms (Le.refl W) gd ru q⟩
  · exact .inr (.inl ⟨a, vs, i, u, rfl, rfl, hq, hu, k W _ _ H ms (Le.refl W) gd ru q⟩)
theorem d2_ixS {z : Str} {i : Int} {c : Nat} (hl : z.length ≤ 1000000) (h : atI z.cps.toList i = some c) (q : P (.str (sign1 c)) ms) : D2 K (rIx K) (.str z) (.int i) ms P := fun W G H v w Q gd rx ry k => by
  cases rx; cases ry
  exact .inr (.inr ⟨z, i, c, rfl, rfl, size_of hl, h, k W _ _ H ms (Le.refl W) gd (.str _) q⟩)
/-! ### calls -/
def rLenK (K : PySem.W.Frag) : List V → Hp → VK → Prop := fun ws H Q => ∃ x n, ws = [x] ∧ LenV K x H n ∧ Q (.int n) H
theorem dr_len {x : Dat} {xs : List Dat} (s : SeqV ms x xs) (q : P (.int xs.length) ms) : DR K (rLenK K) [x] ms P := fun W G H vs Q gd r k => by
  cases r with
  | cons r1 r2 =>
    cases r2
    obtain ⟨a, vs, rfl, hq, rl⟩ := seq_rep gd r1 s
    refine ⟨.ref a, xs.length, rfl, ?_, k W _ _ H ms (Le.refl W) gd (.int _) q⟩
    rcases hq with hq | hq
    · exact .inl ⟨vs, hq, rl.length.symm⟩
    · exact .inr ⟨vs, hq, rl.length.symm⟩
theorem dr_lenS {z : Str} (hl : z.length ≤ 1000000) (q : P (.int z.length) ms) : DR K (rLenK K) [.str z] ms P := fun W G H vs Q gd r k => by
  cases r with
  | cons r1 r2 =>
    cases r2; cases r1
    exact ⟨.str z, z.length, rfl, ⟨size_of hl, rfl⟩, k W _ _ H ms (Le.refl W) gd (.int _) q⟩
theorem blsRep {W : Wd} : ∀ {vs : List V} {bs : List Bool}, RepL K W vs (bs.map Dat.bl) → vs = bs.map V.bl
  | _, [], h => by cases h; rfl
  | _, b :: bs, h => by cases h with | cons x y => cases x; rw [blsRep y]; rfl
theorem intsRep {W : Wd} : ∀ {vs : List V} {bs : List Int}, RepL K W vs (bs.map Dat.int) → vs = bs.map V.int
  | _, [], h => by cases h; rfl
  | _, b :: bs, h => by cases h with | cons x y => cases x; rw [intsRep y]; rfl
theorem strsRep {W : Wd} : ∀ {vs : List V} {bs : List Str}, RepL K W vs (bs.map Dat.str) → vs = bs.map V.str
  | _, [], h => by cases h; rfl
  | _, b :: bs, h => by cases h with | cons x y => cases x; rw [strsRep y]; rfl
theorem lstSq {W : Wd} {G H : Hp} {v : V} {x : Dat} {xs : List Dat} (g : Good K W G H ms) (r : Rep K W v x) (s : x = .lst xs ∨ x = .rol xs ∨ ∃ k, x = .cell k ∧ ms[k]? = some (.lst xs)) : ∃ a vs, v = .ref a ∧ SqL K H a vs ∧ RepL K W vs xs := by
  rcases s with s | s | ⟨k, s, e⟩ <;> subst s
  · cases r with | lst e r => exact ⟨_, _, rfl, .inl (.inl (g.fz _ _ e)), r⟩
  · cases r with | rol e r => exact ⟨_, _, rfl, g.fz.seq e, r⟩
  · cases r with
    | cell e2 =>
      obtain ⟨vs, h1, h2⟩ := (show MoOk K W H _ (.lst xs) from g.cl _ _ _ e2 e)
      exact ⟨_, vs, rfl, SqL.of h1, h2⟩
theorem dr_all {bs : List Bool} (q : P (.bl (bs.all id)) ms) : DR K (rAll K) [.lst (bs.map Dat.bl)] ms P := fun W G H vs Q gd r k => by
  cases r with
  | cons r1 r2 =>
    cases r2
    obtain ⟨a, vs, rfl, hq, rl⟩ := lstSq gd r1 (.inl rfl)
    rw [blsRep rl] at hq
    exact ⟨a, bs, rfl, hq, k W _ _ H ms (Le.refl W) gd (.bl _) q⟩
theorem dr_any {bs : List Bool} (q : P (.bl (bs.any id)) ms) : DR K (rAny K) [.lst (bs.map Dat.bl)] ms P := fun W G H vs Q gd r k => by
  cases r with
  | cons r1 r2 =>
    cases r2
    obtain ⟨a, vs, rfl, hq, rl⟩ := lstSq gd r1 (.inl rfl)
    rw [blsRep rl] at hq
    exact ⟨a, bs, rfl, hq, k W _ _ H ms (Le.refl W) gd (.bl _) q⟩
theorem dr_sum {ns : List Int} (q : P (.int ns.sum) ms) : DR K (rSum K) [.lst (ns.map Dat.int)] ms P := fun W G H vs Q gd r k => by
  cases r with
  | cons r1 r2 =>
    cases r2
    obtain ⟨a, vs, rfl, hq, rl⟩ := lstSq gd r1 (.inl rfl)
    rw [intsRep rl] at hq
    exact ⟨a, ns, rfl, hq, k W _ _ H ms (Le.refl W) gd (.int _) q⟩
/-- a datum's built-in type -/
def tyName : Dat → Option String
  | .non => some "NoneType"
  | .bl _ => some "bool"
  | .int _ => some "int"
  | .str _ => some "str"
  | .lst _ => some "list"
  | .rol _ => none
  | .tup _ => none
  | .dct _ => some "dict"
  | _ => none
end
end DL
namespace DL
open PySem PySem.Spec PyProof.Rows L2
theorem bt_len : bootBuiltins "len" = some (.builtin "len") := by decide +kernel
theorem bt_all : bootBuiltins "all" = some (.builtin "all") := by decide +kernel
theorem bt_any : bootBuiltins "any" = some (.builtin "any") := by decide +kernel
theorem bt_sum : bootBuiltins "sum" = some (.builtin "sum") := by decide +kernel
theorem bt_abs : bootBuiltins "abs" = some (.builtin "abs") := by decide +kernel
theorem bt_ord : bootBuiltins "ord" = some (.builtin "ord") := by decide +kernel
theorem bt_isinstance : bootBuiltins "isinstance" = some (.builtin "isinstance") := by decide +kernel
theorem bt_repr : bootBuiltins "repr" = some (.builtin "repr") := by decide +kernel
theorem bt_max : bootBuiltins "max" = some (.builtin "max") := by decide +kernel
theorem bt_min : bootBuiltins "min" = some (.builtin "min") := by decide +kernel
theorem bt_int : bootBuiltins "int" = some (.type "int") := by decide +kernel
theorem bt_str : bootBuiltins "str" = some (.type "str") := by decide +kernel
theorem bt_list : bootBuiltins "list" = some (.type "list") := by decide +kernel
theorem bt_tuple : bootBuiltins "tuple" = some (.type "tuple") := by decide +kernel
theorem bt_bool : bootBuiltins "bool" = some (.type "bool") := by decide +kernel
theorem bt_dict : bootBuiltins "dict" = some (.type "dict") := by decide +kernel
section
variable {X : Cx}
/-- a module's constant -/
theorem pe_gl {x : Str} {v : V} {pos : Pos} (hg : Gl X x) (h : ∃ u, X.mg x = some u ∧ RelV v u) (hd : (x == ("__debug__" : Str)) = false := by decide) : PE X (.Name x pos) (tC v) := by
  obtain ⟨u, hm, r⟩ := h
  exact pe_glob hg hm r hd
/-- slices of any kind -/
def rSlA (K : PySem.W.Frag) : V → Option Int → Option Int → Hp → VK → Prop := fun x lo hi H Q => rSlL K x lo hi H Q ∨ (rSlS x lo hi H Q ∨ rSlT K x lo hi H Q)
theorem sl_A : SlR X (rSlA X.K) := sl_list.or (sl_str.or sl_tup)
/-- int(..) of an int, a bool, a text -/
def rIntA : List V → Hp → VK → Prop := fun xs H Q => ((∃ i, xs = [.int i] ∧ Q (.int i) H) ∨ ∃ k, xs = [.bl k] ∧ Q (.int (if k then 1 else 0)) H) ∨ ∃ a n, xs = [.str a] ∧ PySem.intText? a = some n ∧ a.length ≤ 640 ∧ Q (.int n) H
theorem call_intA : CallR X (.type "int") rIntA := orC call_int1 call_int_str
end
section
variable {K : PySem.W.Frag} {ms : Ms} {P : Dat → Ms → Prop} {R : WX} {e : Ev} {X : XP} {ta : TE} {tl th : TO}
theorem dr_int {i : Int} (q : P (.int i) ms) : DR K rIntA [.int i] ms P := fun W G H vs Q gd r k => by
  cases r with
  | cons r1 r2 =>
    cases r2; cases r1
    exact .inl (.inl ⟨i, rfl, k W _ _ H ms (Le.refl W) gd (.int _) q⟩)
theorem dr_intS {z : Str} {n : Int} (h : PySem.intText? z = some n) (hl : z.length ≤ 640) (q : P (.int n) ms) : DR K rIntA [.str z] ms P := fun W G H vs Q gd r k => by
  cases r with
  | cons r1 r2 =>
    cases r2; cases r1
    exact .inr ⟨z, n, rfl, h, hl, k W _ _ H ms (Le.refl W) gd (.int _) q⟩
theorem dr_abs {i : Int} (q : P (.int (if i < 0 then -i else i)) ms) : DR K (fun xs H Q => ∃ i, xs = [.int i] ∧ Q (.int (if i < 0 then -i else i)) H) [.int i] ms P := fun W G H vs Q gd r k => by
  cases r with
  | cons r1 r2 =>
    cases r2; cases r1
    exact ⟨i, rfl, k W _ _ H ms (Le.refl W) gd (.int _) q⟩
theorem dr_ord {c : Nat} (q : P (.int (c : Int)) ms) : DR K (fun xs H Q => ∃ x : Str, xs = [.str x] ∧ x.length = 1 ∧ Q (.int (x.cps.getD 0 0 : Nat)) H) [.str (sign1 c)] ms P := fun W G H vs Q gd r k => by
  cases r with
  | cons r1 r2 =>
    cases r2; cases r1
    exact ⟨sign1 c, rfl, rfl, k W _ _ H ms (Le.refl W) gd (.int _) q⟩
/-! ### isinstance -/
/-- the name of a datum's built-in type -/
def tyOf (ms : Ms) : Dat → Option String
  | .non => some "NoneType"
  | .bl _ => some "bool"
  | .int _ => some "int"
  | .str _ => some "str"
  | .lst _ => some "list"
  | .rol _ => some "list"
  | .tup _ => some "tuple"
  | .dct _ => some "dict"
  | .cell k => match ms[k]? with
    | some (.lst _) => some "list"
    | some (.dct _) => some "dict"
    | _ => none
  | _ => none
theorem tyx_of {W : Wd} {G H : Hp} (g : Good K W G H ms) {v : V} {d : Dat} {T : String} (h : tyOf ms d = some T) (r : Rep K W v d) : TyX K H v (.type T) := by
  cases d with
  | non => cases r; cases h; exact .base .non
  | bl b => cases r; cases h; exact .base (.bl _)
  | int b => cases r; cases h; exact .base (.int _)
  | str b => cases r; cases h; exact .base (.str _)
  | lst b => cases h; cases r with | lst e _ => exact .base (.lst (g.fz _ _ e))
  | dct b => cases h; cases r with | dct e _ => exact .base (.dK (g.fz _ _ e))
  | rol b =>
    cases h
    cases r with
    | rol e _ =>
      rcases e with (e | ⟨o, e⟩) | ⟨o, its, n, e, c, _⟩
      · exact .base (.lst (g.fz _ _ e))
      · exact .base (.frz (g.fz _ _ e))
      · exact .kList e c
  | tup b =>
    cases h
    cases r with
    | tup e _ =>
      rcases e with (e | ⟨o, e⟩) | ⟨o, its, n, e, c, _⟩
      · exact .base (.tup (g.fz _ _ e))
      · exact .fTuple (g.fz _ _ e)
      · exact .kTuple e c
  | cell k =>
    cases r with
    | cell e =>
      have h' : (match ms[k]? with | some (.lst _) => some "list" | some (.dct _) => some "dict" | _ => none) = some T := h
      cases hm : ms[k]? with
      | none => rw [hm] at h'; cases h'
      | some m =>
        rw [hm] at h'
        have o := g.cl k _ m e hm
        cases m with
        | lst xs => cases h'; obtain ⟨vs, e, _⟩ := o; exact .base (.lst e)
        | dct xs => cases h'; obtain ⟨vs, e, _⟩ := o; exact .base (.dK e)
        | ins C xs => cases h'
  | exc _ _ => cases h
  | hot _ _ _ _ => cases h
  | ref _ => cases h
  | ty _ => cases h
end
end DL
namespace DL
open PySem PySem.Spec PyProof.Rows L2
/-! ### error classes of the text -/
structure ExT (K : PySem.W.Frag) (C : Addr) : Prop where
  o : OexC K C
  ga : PySem.W.findIn K (.ref C) "__getattribute__" = some (some (.builtin "BaseException.__getattribute__"))
  gg : PySem.W.findIn K (.ref C) "__getattr__" = some none
  hd : PySem.W.hasDictIn K C = true
  cl : PySem.W.findIn K (.ref C) "__class__" = some (some (.builtin "object.__class__"))
  mo : PySem.W.mroIn K C (.type "object") = some true
  sp : PySem.W.specialIn K (.builtin "object.__class__") "__get__" = some (some (.builtin "getset_descriptor.__get__"))
  tk : PySem.W.takesIn K (.builtin "object.__class__") = some true
  nt : ∀ n ∈ (["str", "tuple", "list", "int", "bool", "dict"] : List String), PySem.W.kitOne K (.ref C) (.type n) = some false
theorem ExT.x {K : PySem.W.Frag} {C : Addr} (T : ExT K C) : XfC K C := ⟨T.ga, T.gg, T.o.exC, T.hd⟩
section
variable {Xc : Cx}
/-- the object of an error that is held as a value -/
theorem exc_at {pins : List (Addr × Obj)} {σ : L2.St} {H : Hp} {s : Shared} {a C dx : Addr} {fs : List (Str × V)} (I : Inv Xc pins σ H s) (e : H a = some (exo a C (some dx))) (e2 : H dx = some (exd dx fs)) :
    ∃ (ox od : Obj) (mA : Str → Option Value), PySem.W.InstAt s.heap a ox C (some od) ∧ s.heap.Ns1 dx mA ∧ (∀ f, RelO (fs.lookup f) (mA f)) ∧ s.heap.get? dx = some od := by
  obtain ⟨t1, h1⟩ := exo_at I.hok e
  obtain ⟨mA, hn, hr⟩ := exd_at I.hok e2
  obtain ⟨od, _, _, ho, _⟩ := id hn
  exact ⟨_, od, mA, ⟨h1, rfl, rfl, ho⟩, hn, hr, ho⟩
def rIsiE (K : PySem.W.Frag) : List V → Hp → VK → Prop := fun xs H Q => ∃ (a C dx : Addr) (fs : List (Str × V)) (c : V) (u : Value) (b : Bool), xs = [.ref a, c] ∧ ClsV c u ∧ ExT K C ∧ H a = some (exo a C (some dx)) ∧ H dx = some (exd dx fs) ∧
  PySem.W.kitOne K (.ref C) u = some b ∧ Q (.bl b) H
theorem call_isiE : CallR Xc (.builtin "isinstance") (rIsiE Xc.K) := by
  intro pins s σ H xs us Q I r h
  obtain ⟨a, C, dx, fs, c, u, b, rfl, k, T, e1, e2, e, q⟩ := h
  cases r with
  | cons ra rr => cases rr with
    | cons rc rr =>
      cases rr
      obtain rfl := k.eq rc
      cases ra
      obtain ⟨ox, od, mA, J, _⟩ := exc_at I e1 e2
      obtain ⟨cd, hc, _⟩ := PySem.W.any_some T.hd
      exact PySem.W.kia_one (PySem.W.kitx_exc (by rw [hc]; rfl) T.ga T.gg T.o.exC T.cl T.sp T.tk T.mo) I.kIn J e (fun z => nomatch z) fun tk => ⟨.bl b, H, I.tok tk, rfl, q⟩
def rIsiTE (K : PySem.W.Frag) : List V → Hp → VK → Prop := fun xs H Q => ∃ (a C dx : Addr) (fs : List (Str × V)) (tp : Addr) (cs : List V) (us : List Value) (b : Bool), xs = [.ref a, .ref tp] ∧ H tp = some (.tup cs) ∧ Paired ClsV cs us ∧ ExT K C ∧ H a = some (exo a C (some dx)) ∧ H dx = some (exd dx fs) ∧
  PySem.W.kitAny K (.ref C) us = some b ∧ Q (.bl b) H
theorem call_isiTE : CallR Xc (.builtin "isinstance") (rIsiTE Xc.K) := by
  intro pins s σ H xs us Q I r h
  obtain ⟨a, C, dx, fs, tp, cs, ws, b, rfl, hT, k, T, e1, e2, e, q⟩ := h
  cases r with
  | cons ra rr => cases rr with
    | cons rc rr =>
      cases rr
      cases ra; cases rc
      obtain ⟨ox, od, mA, J, _⟩ := exc_at I e1 e2
      obtain ⟨cd, hc, _⟩ := PySem.W.any_some T.hd
      obtain ⟨_, its, rv, ob, h1, h2, n, h3⟩ := (show ObjOk Xc.prog Xc.w H s.heap tp (.tup cs) from I.hok tp _ hT)
      obtain rfl := ClsV.all k rv
      obtain ⟨oc, od', dt, sl⟩ := ob
      dsimp only at h2 h3
      subst h2; subst h3
      exact PySem.W.kia_tup (PySem.W.kitx_exc (by rw [hc]; rfl) T.ga T.gg T.o.exC T.cl T.sp T.tk T.mo) I.kIn J h1 e (fun z => nomatch z) fun tk => ⟨.bl b, H, I.tok tk, rfl, q⟩
def rIsiX (K : PySem.W.Frag) : List V → Hp → VK → Prop := fun xs H Q => (rIsi K xs H Q ∨ rIsiT K xs H Q) ∨ (rIsiE K xs H Q ∨ rIsiTE K xs H Q)
theorem call_isiX : CallR Xc (.builtin "isinstance") (rIsiX Xc.K) := orC (orC call_isi call_isiT) (orC call_isiE call_isiTE)
/-- x.f of such an error -/
def tFldE (K : PySem.W.Frag) (f : Str) (te : TE) : TE := fun σ H Q => te σ H fun x H1 => ∃ (a C dx : Addr) (fs : List (Str × V)) (v : V), x = .ref a ∧ ExT K C ∧ PySem.W.findIn K (.ref C) f = some none ∧ H1 a = some (exo a C (some dx)) ∧ H1 dx = some (exd dx fs) ∧ fs.lookup f = some v ∧ Q v H1
theorem pe_fldE {e : Expr} {te : TE} {pos : Pos} {f : Str} (he : PE Xc e te) (hb : attributeBase e f Xc.env (eval e Xc.env) = eval e Xc.env := by rfl) : PE Xc (.Attribute e f pos) (tFldE Xc.K f te) := by
  refine ⟨fun pins s σ H Q I h => attr_of hb (thn (he.run pins s σ H _ I h) fun u s1 hh => ?_)⟩
  obtain ⟨x, H1, I1, rx, a, C, dx, fs, v, ex, T, hno, e1, e2, l, q⟩ := hh
  subst ex
  obtain rfl : u = Value.ref a := rx
  obtain ⟨ox, od, mA, J, hns, hr, hod⟩ := exc_at I1 e1 e2
  obtain ⟨od2, ho2, hl⟩ := lookIn_ns hns
  rw [hod] at ho2; cases ho2
  obtain ⟨w, hw, rw'⟩ := RelO.some_of (v := v) (o := mA f) (by rw [← l]; exact hr f)
  exact HandSPX.exc_get I1.kIn J T.ga T.gg T.o.exC (PySem.W.findObj_own T.hd hno rfl (by rw [hl, hw])) (handed_of rw') ⟨v, H1, I1.tok _, rw', q⟩
/-! ### L.__init__(self, ..) of the base class L -/
structure LoT (K : PySem.W.Frag) (mg : Str → Option Value) (nm : Str) (L : Addr) : Prop where
  m : mg nm = some (.ref L)
  sg : PySem.W.specialIn K (.ref L) "__getattribute__" = some (some (.builtin "type.__getattribute__"))
  tp : PySem.W.typeIn K (.ref L) = some (.type "type")
  rd : PySem.W.readsIn K L (.type "type") = true
  fc : PySem.W.findCls K (.ref L) (.type "type") "__init__" = some (.val (.builtin "ValueError.__init__"))
theorem pe_linit {nm : Str} {L : Addr} {e : Expr} {es : List Expr} {ta : TA} {p1 p2 pos : Pos} {pl : Sem Bool} (T : LoT Xc.K Xc.mg nm L) (hg : Gl Xc nm) (ha : PA Xc (e :: es) ta) (hdb : (nm == ("__debug__" : Str)) = false := by decide)
    (hc : eval (.Call (.Attribute (.Name nm p1) "__init__" p2) (e :: es) [] pos) Xc.env = (do
      let ov ← eval (.Name nm p1) Xc.env
      standAt p2.atName
      let (f, first) ← holding [ov] (getMethod ov "__init__" pl)
      callWith pos f first (backTo pos (starEach (e :: es) Xc.env)) (backToKw pos (keywordEach [] Xc.env))) := by rfl)
    (he : starEach (e :: es) Xc.env = (false, eval e Xc.env) :: starEach es Xc.env := by rfl) (hpl : (backTo pos (starEach es Xc.env)).any (·.1) = false := by rfl) :
    PE Xc (.Call (.Attribute (.Name nm p1) "__init__" p2) (e :: es) [] pos) (tVeI Xc.K ta) := by
  refine ⟨fun pins s σ H Q I h => PySem.W.methodCall_KW (ld_glob I hg T.m ?_ hdb) hc⟩
  obtain ⟨m, fr⟩ := I.fr
  refine PySem.W.method_cls I.kIn T.sg (PySem.W.cls_val fr I.ok.mod.kin T.tp T.rd T.fc (by decide +kernel) ?_)
  show wpAny _ _ (callWith pos (Value.builtin "ValueError.__init__") [] (backTo pos (starEach (e :: es) Xc.env)) []) _ _ _
  refine PyProof.Rows.callWith_method1 (thn (ha.run pos pins _ σ H _ (I.tok _) h) fun us s1 hh => ?_) he hpl
  obtain ⟨vs, H1, I1, r1, a, C, ws, ev, hl, T', ea, q⟩ := hh
  subst ev
  cases r1 with
  | @cons _ u0 _ ur ra rr =>
    obtain rfl : u0 = Value.ref a := ra
    refine oinit_ok T' I1 ea ?_ fun s' J => ⟨.non, H1, J, rfl, q⟩
    rw [← Paired.length rr, sizeLine_eq]
    omega
/-! ### C(e, ..) as a value -/
def tNewE (C : Addr) (sp : Sp) (ta : TA) : TE := fun σ H Q => ta σ H fun vs H1 => vs.length ≤ 1000 ∧ ∀ a, H1 a = none → sp (.ref a :: vs) (upd H1 a (exo a C none)) (fun v H2 => v = .non ∧ Q (.ref a) H2) E0
variable {cx : CXT} {x : Str} {e : Expr} {es : List Expr} {ta : TA} {p pos : Pos} {C fI : Addr} {k : Nat} {fd : FuncData} {ps : List Str} {sp : Sp}
theorem mk_run {pins : List (Addr × Obj)} {σ : L2.St} {H1 : Hp} {s1 : Shared} {vs : List V} {us : List Value} {Qr : V → Hp → Prop} {Qf : Value → Shared → Prop} (T : OexC Xc.K C) (iC : PySem.W.findIn Xc.K (.ref C) "__init__" = some (some (.ref fI))) (tI : PySem.W.typeIn Xc.K (.ref fI) = some (.type "function"))
    (F1 : FnOk Xc.prog Xc.w Xc.K Xc.mg Xc.base cx k fI fd ps sp) (hr : Room (k + 1) Xc.A) (hb : Binds Xc.K fd ps []) (hx : Passes cx Xc E0) (I1 : Inv Xc pins σ H1 s1) (r1 : Vals vs us) (hz : vs.length ≤ 1000)
    (hq : sp (.ref (s1.heap.objs.size + 1) :: vs) (upd H1 (s1.heap.objs.size + 1) (exo (s1.heap.objs.size + 1) C none)) (fun v H2 => v = .non ∧ Qr (.ref (s1.heap.objs.size + 1)) H2) E0)
    (fin : ∀ (H2 : Hp) (s2 : Shared), CE Xc.stack Xc.prog Xc.w (upd H1 (s1.heap.objs.size + 1) (exo (s1.heap.objs.size + 1) C none)) { s1 with heap := (s1.heap.push (PySem.W.kdv_tup us)).push (PySem.HandSPX.excO C s1.heap.objs.size) } (fun v H2' => v = .non ∧ H2' = H2) .none s2 →
      Inv Xc pins σ H2 s2 → Qr (.ref (s1.heap.objs.size + 1)) H2 → Qf (.ref (s1.heap.objs.size + 1)) s2) :
    wpAny (model Xc.prog Xc.w) Xc.A (call (.ref C) us) Qf Xc.xe s1 := by
  obtain ⟨nm, q, N, bs, bm, sn, sub, ab, col, dd, k0, k1, k2, k3, k5, hC, hbm⟩ := T.cls
  obtain ⟨hp, g, dr, tk, os⟩ := s1
  have le1 : hp.objs.size ≤ hp.objs.size + 1 := Nat.le_succ _
  have hget : ((hp.push (PySem.W.kdv_tup us)).push (PySem.HandSPX.excO C hp.objs.size)).get? (hp.objs.size + 1) = some (PySem.HandSPX.excO C hp.objs.size) := by heap_get
  have I2 : Inv Xc pins σ (upd H1 (hp.objs.size + 1) (exo (hp.objs.size + 1) C none)) ⟨(hp.push (PySem.W.kdv_tup us)).push (PySem.HandSPX.excO C hp.objs.size), g, dr, tk, os⟩ :=
    Inv.laid (t' := tk) (a := hp.objs.size + 1) (o := exo (hp.objs.size + 1) C none) (h' := (hp.push (PySem.W.kdv_tup us)).push (PySem.HandSPX.excO C hp.objs.size)) I1 (fun b o e => Heap.get?_push_of_some _ (Heap.get?_push_of_some _ e)) le1 (exo_ok hget)
  have rr : Vals (V.ref (hp.objs.size + 1) :: vs) (Value.ref (hp.objs.size + 1) :: us) := .cons rfl r1
  have n : (Value.ref (hp.objs.size + 1) :: us).length = ps.length := rr.length.symm.trans (F1.len _ _ _ _ hq)
  have few : us.length ≤ sizeLine := by
    rw [← Paired.length r1, sizeLine_eq]; omega
  have bb := hb _ (Value.ref (hp.objs.size + 1) :: us) I2.kIn (by rw [List.append_nil]; exact n)
  rw [List.append_nil] at bb
  refine wpAny_call (PySem.HandSPX.call_own F.excBase_ValueError (fun Y => PySem.HandSPX.refsVE_contains Y bm hbm) (I1.kIn _ _ hC) (PySem.W.looks_findIn I1.kIn iC) (fun self => PySem.W.bind_fn I1.kIn self tI) few
    (codeAny_mono (F1.run _ Xc.stack _ _ ⟨Value.ref (hp.objs.size + 1) :: us, []⟩ _ _ _ E0 (hr.make C us []) (I2.env0.make C us []) bb rr hq) fun z s' hz' => ?_))
  match z, hz' with
  | .error er, hz' => exact hx pins σ _ _ er s' I2 hz'
  | .ok (.ret u), hz' =>
    obtain ⟨v, H2, a1, a2, a3, a4, rv, hv, hQ⟩ := hz'
    subst hv
    obtain rfl : u = Value.none := rv
    obtain ⟨v', H3, I3, _, q3⟩ := I2.after (Q := fun v H' => H' = H2) (show CE _ _ _ _ _ _ Value.none s' from ⟨.non, H2, a1, a2, a3, a4, rfl, rfl⟩)
    cases q3
    exact ⟨rfl, fin H2 s' ⟨.non, H2, a1, a2, a3, a4, rfl, rfl, rfl⟩ I3 hQ⟩
  | .ok .next, hz' => exact hz'.elim
  | .ok .brk, hz' => exact hz'.elim
  | .ok .cont, hz' => exact hz'.elim
theorem pe_newE (T : OexC Xc.K C) (iC : PySem.W.findIn Xc.K (.ref C) "__init__" = some (some (.ref fI))) (tI : PySem.W.typeIn Xc.K (.ref fI) = some (.type "function"))
    (F1 : FnOk Xc.prog Xc.w Xc.K Xc.mg Xc.base cx k fI fd ps sp) (hr : Room (k + 1) Xc.A) (hb : Binds Xc.K fd ps []) (hx : Passes cx Xc E0) (hg : Gl Xc x) (hm : Xc.mg x = some (.ref C)) (ha : PA Xc (e :: es) ta)
    (hdb : (x == ("__debug__" : Str)) = false := by decide) (he : starEach (e :: es) Xc.env = (false, eval e Xc.env) :: starEach es Xc.env := by rfl) (hpl : (backTo pos (starEach es Xc.env)).any (·.1) = false := by rfl) :
    PE Xc (.Call (.Name x p) (e :: es) [] pos) (tNewE C sp ta) := ⟨fun pins s σ H Q I h =>
  wpAny_Call_Name_kw (ld_glob I hg hm (PySem.W.callWith_K (h₀ := Xc.base) I.ok.mod.kin T.kC (thn (ha.run pos pins s σ H _ I h) fun us s1 ⟨vs, H1, I1, r, hz, q⟩ =>
    ⟨I1.kIn, mk_run T iC tI F1 hr hb hx I1 r hz (Qr := Q) (q _ (I1.hok.fresh (Nat.le_succ _))) fun H2 s2 _ J hQ => ⟨.ref _, H2, J, rfl, hQ⟩⟩) he hpl) hdb)⟩
/-- raise C(e, ..): the error is let go, its dict stays -/
theorem pmk_newN (T : OexC Xc.K C) (iC : PySem.W.findIn Xc.K (.ref C) "__init__" = some (some (.ref fI))) (tI : PySem.W.typeIn Xc.K (.ref fI) = some (.type "function"))
    (F1 : FnOk Xc.prog Xc.w Xc.K Xc.mg Xc.base cx k fI fd ps sp) (hr : Room (k + 1) Xc.A) (hb : Binds Xc.K fd ps []) (hx : Passes cx Xc E0) (hg : Gl Xc x) (hm : Xc.mg x = some (.ref C)) (ha : PA Xc (e :: es) ta)
    (hdb : (x == ("__debug__" : Str)) = false := by decide) (he : starEach (e :: es) Xc.env = (false, eval e Xc.env) :: starEach es Xc.env := by rfl) (hpl : (backTo pos (starEach es Xc.env)).any (·.1) = false := by rfl) :
    L2N.PMk Xc (.Call (.Name x p) (e :: es) [] pos) (tMkO C sp [] ta) := by
  intro pins s σ H Q I h
  refine wpAny_Call_Name_kw (ld_glob I hg hm (PySem.W.callWith_K (h₀ := Xc.base) I.ok.mod.kin T.kC (thn (ha.run pos pins s σ H _ I h) fun us s1 hh => ?_) he hpl) hdb)
  obtain ⟨vs, H1, I1, r, hz, q⟩ := hh
  have hn := I1.hok.fresh (Nat.le_succ s1.heap.objs.size)
  have q1 := q _ hn
  rw [List.append_nil] at q1
  refine ⟨I1.kIn, mk_run T iC tI F1 hr hb hx I1 r hz (Qr := fun _ H2 => ∃ (d : Addr) (fs : List (Str × V)), H2 (s1.heap.objs.size + 1) = some (exo (s1.heap.objs.size + 1) C (some d)) ∧ H2 d = some (exd d fs) ∧ H1 d = none ∧ Q (.ref C) (some d) (upd (L2.del H2 (s1.heap.objs.size + 1)) d (.xd fs))) q1 fun H2 s2 ce J hQ => ?_⟩
  obtain ⟨d, fs, ea, ed, hd1, hq⟩ := hQ
  obtain ⟨v, H2', o2, b2, un2, ok2, _, _, rfl⟩ := ce
  obtain ⟨hp, g, dr, tk, os⟩ := s1
  obtain ⟨h2, g2, d2, t2, os2⟩ := s2
  obtain ⟨t0, Gh, J2, kG, ge, hoe, na⟩ := mk_end0 (d2 := d2) (t2 := t2) I1 (Nat.le_succ _) (fun b o e => Heap.get?_push_of_some _ (Heap.get?_push_of_some _ e)) un2 ok2 o2 b2 ea ed hd1
  exact ⟨hp.objs.size + 1, _, _, ⟨Gh, g2, d2, t2, os2⟩, _, .ref C, some d, rfl, J2, kG, ge, hoe, ⟨rfl, rfl, fun vs hv => by cases hv; rfl⟩, rfl, rfl, na, rfl, b2, raises_own T.exC T.tyC, hq⟩
end
end DL
namespace DL
open PySem PySem.Spec PyProof.Rows L2
/-! ### __init__ of an error class: L.__init__(self, 'words'); self.f = v (; self.g = u) -/
def spIni1 (K : PySem.W.Frag) (f : Str) : Sp := fun vs H Q _ => ∃ (a C : Addr) (v : V), vs = [.ref a, v] ∧ OexC K C ∧ PySem.W.findIn K (.ref C) f = some none ∧ H a = some (exo a C none) ∧
  ∀ dx, H dx = none → dx ≠ a → Q .non (upd (upd H dx (exd dx [(f, v)])) a (exo a C (some dx)))
def spIni2 (K : PySem.W.Frag) (f g : Str) : Sp := fun vs H Q _ => ∃ (a C : Addr) (v u : V), vs = [.ref a, v, u] ∧ OexC K C ∧ PySem.W.findIn K (.ref C) f = some none ∧ PySem.W.findIn K (.ref C) g = some none ∧ H a = some (exo a C none) ∧
  ∀ dx, H dx = none → dx ≠ a → Q .non (upd (upd (upd H dx (exd dx [(f, v)])) a (exo a C (some dx))) dx (exd dx [(g, u), (f, v)]))
theorem ini1_run {K : PySem.W.Frag} {f : Str} {vs : List V} {H : Hp} {Q : VK} {E : XK} (h : spIni1 K f vs H Q E) {x : Str} {z : Str} :
    tSeq (tDrop (tVeI K (tCons (tVar 0) (tCons (tC (.str z)) tNil)))) (tOst K f (tVar 0) (tVar 1)) { nx := fun _ H' => Q .non H', rt := Q } (L2.start ["self", x] vs) H := by
  obtain ⟨a, C, v, rfl, T, hno, e, k⟩ := h
  exact ⟨_, rfl, a, C, [.str z], rfl, (by show 1 ≤ 1000; decide), T, e, v, rfl, .ref a, rfl, a, C, rfl, T, hno, .inl ⟨e, k⟩⟩
theorem ini2_run {K : PySem.W.Frag} {f g : Str} {vs : List V} {H : Hp} {Q : VK} {E : XK} (h : spIni2 K f g vs H Q E) {x y : Str} {z : Str} :
    tSeq (tDrop (tVeI K (tCons (tVar 0) (tCons (tC (.str z)) tNil)))) (tSeq (tOst K f (tVar 0) (tVar 1)) (tOst K g (tVar 0) (tVar 2))) { nx := fun _ H' => Q .non H', rt := Q } (L2.start ["self", x, y] vs) H := by
  obtain ⟨a, C, v, u, rfl, T, hno, hng, e, k⟩ := h
  refine ⟨_, rfl, a, C, [.str z], rfl, (by show 1 ≤ 1000; decide), T, e, v, rfl, .ref a, rfl, a, C, rfl, T, hno, .inl ⟨e, fun dx hdx ne => ?_⟩⟩
  refine ⟨u, rfl, .ref a, rfl, a, C, rfl, T, hng, .inr ⟨dx, [(f, v)], upd_same, by rw [upd_ne ne, upd_same], (by show 1 ≤ 900; decide), k dx hdx ne⟩⟩
section
variable {K : PySem.W.Frag} {R : WX} {e : Ev} {ms : Ms} {X : XP} {ta te : TE} {tA : TA} {P : Dat → Ms → Prop} {O : Out} {C a d : Addr} {f g : Str} {t : TS} {i : Nat}
theorem laid2 {W : Wd} {G H : Hp} {a dx : Addr} {o1 o2 : HO} (gd : Good K W G H ms) (n1 : H a = none) (n2 : upd H a o1 dx = none) :
    Good K ⟨W.ι, upd (upd W.F dx o2) a o1⟩ G (upd (upd H dx o2) a o1) ms ∧ Le W ⟨W.ι, upd (upd W.F dx o2) a o1⟩ := by
  have ne : dx ≠ a := fun z => by rw [z, upd_same] at n2; cases n2
  have n2' : H dx = none := by rw [upd_ne ne] at n2; exact n2
  obtain ⟨g1, l1⟩ := gd.laid (o := o2) n2'
  obtain ⟨g2, l2⟩ := g1.laid (p := a) (o := o1) (by rw [upd_ne (Ne.symm ne)]; exact n1)
  exact ⟨g2, l1.trans l2⟩
/-- C(d) as a value -/
theorem de_newE1 (hT : OexC K C) (hno : PySem.W.findIn K (.ref C) f = some none) (h : DA K R tA e ms (fun ds m => ∃ d, ds = [d] ∧ P (.exc C [(f, d)]) m) X) : DE K R (tNewE C (spIni1 K f) tA) e ms P X := fun W G σ H Q gd s k x =>
  h W G σ H _ gd s (fun W1 vs ds H1 m1 l1 g1 r1 ⟨d, hd, p⟩ => by
    subst hd
    cases r1 with
    | @cons v0 _ _ _ ra rr =>
      cases rr
      refine ⟨by show 1 ≤ 1000; decide, fun a na => ⟨a, C, v0, rfl, hT, hno, upd_same, fun dx ndx ne => ⟨rfl, ?_⟩⟩⟩
      obtain ⟨g2, l2⟩ := laid2 (o1 := exo a C (some dx)) (o2 := exd dx [(f, v0)]) g1 na (by rw [upd_ne ne] at ndx ⊢; exact ndx)
      have eq : upd (upd (upd H1 a (exo a C none)) dx (exd dx [(f, v0)])) a (exo a C (some dx)) = upd (upd H1 dx (exd dx [(f, v0)])) a (exo a C (some dx)) := by
        funext b
        by_cases h1 : b = a
        · rw [h1, upd_same, upd_same]
        · rw [upd_ne h1, upd_ne h1]
          by_cases h2 : b = dx
          · rw [h2, upd_same, upd_same]
          · rw [upd_ne h2, upd_ne h2, upd_ne h1]
      rw [eq]
      refine k _ _ _ _ _ (l1.trans l2) g2 (.exc (dx := dx) upd_same (by show upd (upd W1.F dx _) a _ dx = _; rw [upd_ne ne, upd_same]) (.cons (Rep.mono l2 _ _ ra) .nil)) p) x
/-- what is raised, as a statement's reading -/
def tRaiseO (C : Addr) (sp : Sp) (R : WX) (tA : TA) : TS := fun _ σ H => tMkO C sp [] tA σ H fun cls d H' => R cls d σ H'
theorem raised1 {W : Wd} {G H : Hp} {v : V} {d : Dat} {Q : XK} (g1 : Good K W G H ms) (hT : OexC K C) (hno : PySem.W.findIn K (.ref C) f = some none) (ra : Rep K W v d)
    (k : ∀ (W' : Wd) (dx : Addr) (H' : Hp), Le W W' → Good K W' G H' ms → W'.F dx = some (.xd [(f, v)]) → Rep K W' v d → Q (.ref C) (some dx) H') (a : Addr) (na : H a = none) :
    spIni1 K f [.ref a, v] (upd H a (exo a C none)) (fun u H2 => u = .non ∧ ∃ (dx : Addr) (fs : List (Str × V)), H2 a = some (exo a C (some dx)) ∧ H2 dx = some (exd dx fs) ∧ H dx = none ∧ Q (.ref C) (some dx) (upd (L2.del H2 a) dx (.xd fs))) (fun _ _ _ => False) := by
  refine ⟨a, C, v, rfl, hT, hno, upd_same, fun dx ndx ne => ⟨rfl, dx, [(f, v)], upd_same, by rw [upd_ne ne, upd_same], by rw [upd_ne ne] at ndx; exact ndx, ?_⟩⟩
  have n2 : H dx = none := by rw [upd_ne ne] at ndx; exact ndx
  have eq : upd (L2.del (upd (upd (upd H a (exo a C none)) dx (exd dx [(f, v)])) a (exo a C (some dx))) a) dx (.xd [(f, v)]) = upd H dx (.xd [(f, v)]) := by
    funext b
    by_cases h2 : b = dx
    · rw [h2, upd_same, upd_same]
    · rw [upd_ne h2, upd_ne h2]
      by_cases h1 : b = a
      · rw [h1, del_same, na]
      · rw [del_ne h1, upd_ne h1, upd_ne h2, upd_ne h1]
  rw [eq]
  obtain ⟨g2, l2⟩ := g1.laid (o := .xd [(f, v)]) n2
  exact k _ dx _ l2 g2 upd_same (Rep.mono l2 _ _ ra)
theorem ds_raise1 (hT : OexC K C) (hno : PySem.W.findIn K (.ref C) f = some none) (h : DA K R tA e ms (fun ds m => ∃ d, ds = [d] ∧ O.ex C [(f, d)] e m) (O.xp e)) : DS K R (tRaiseO C (spIni1 K f) R tA) e ms O := fun W G σ H D gd s ft =>
  h W G σ H _ gd s (fun W1 vs ds H1 m1 l1 g1 r1 ⟨d, hd, p⟩ => by
    subst hd
    cases r1 with
    | cons ra rr =>
      cases rr
      refine ⟨by show 1 ≤ 1000; decide, fun a na => ?_⟩
      exact raised1 (Q := fun cls d H' => R cls d σ H') g1 hT hno ra (fun W' dx H' l' g' hx r' => ft.ex W' σ e C dx _ [(f, d)] H' m1 (l1.trans l') g' ((s.mono l1).mono l') hx (.cons r' .nil) p) a na) (ft.ex.at s)
theorem repF_look {W : Wd} : ∀ {fs : List (Str × V)} {ds : List (Str × Dat)}, RepF K W fs ds → ∀ {f : Str} {d : Dat}, ds.lookup f = some d → ∃ v, fs.lookup f = some v ∧ Rep K W v d
  | _, [], h, f, d, e => by simp at e
  | _, (g, d0) :: ds, h, f, d, e => by
    cases h with
    | cons a b =>
      rw [List.lookup_cons] at e
      by_cases hf : f == g
      · simp only [hf] at e
        cases e
        exact ⟨_, by simp [List.lookup_cons, hf], a⟩
      · have hf' : (f == g) = false := by simpa using hf
        simp only [hf'] at e
        obtain ⟨v, h1, h2⟩ := repF_look b e
        exact ⟨v, by simp only [List.lookup_cons, hf']; exact h1, h2⟩
theorem de_fldE {fs : List (Str × Dat)} {d : Dat} (hT : ExT K C) (hno : PySem.W.findIn K (.ref C) f = some none) (hl : fs.lookup f = some d) (h : DE K R te e ms (fun x m => x = .exc C fs ∧ P d m) X) : DE K R (tFldE K f te) e ms P X := fun W G σ H Q gd s k x =>
  h W G σ H _ gd s (fun W1 v y H1 m1 l1 g1 r1 ⟨hx, p⟩ => by
    subst hx
    cases r1 with
    | exc e1 e2 rf =>
      obtain ⟨u, h1, h2⟩ := repF_look rf hl
      exact ⟨_, C, _, _, u, rfl, hT, hno, g1.fz _ _ e1, g1.fz _ _ e2, h1, k W1 _ _ H1 m1 l1 g1 h2 p⟩) x
/-- a field of the error that the suite holds -/
theorem de_xf {fs : List (Str × Dat)} {d : Dat} {dd : Addr} (hl : fs.lookup f = some d) (h : DE K R te e ms (fun x m => x = .hot a dd C fs ∧ P d m) X) : DE K R (tXf a (.ref C) (some dd) C f te) e ms P X := fun W G σ H Q gd s k x =>
  h W G σ H _ gd s (fun W1 v y H1 m1 l1 g1 r1 ⟨hx, p⟩ => by
    subst hx
    cases r1 with
    | hot e1 rf =>
      obtain ⟨u, h1, h2⟩ := repF_look rf hl
      exact ⟨rfl, rfl, dd, _, u, rfl, g1.fz _ _ e1, h1, k W1 _ _ H1 m1 l1 g1 h2 p⟩) x
/-! ### isinstance -/
theorem dr_isi {x : Dat} {T n : String} {b : Bool} (ht : tyOf ms x = some T) (hb : kitB T n = some b) (q : P (.bl b) ms) : DR K (rIsiX K) [x, .ty n] ms P := fun W G H vs Q gd r k => by
  cases r with
  | cons r1 rr => cases rr with
    | cons r2 rr =>
      cases rr; cases r2
      exact .inl (.inl ⟨_, _, .type T, .type n, b, rfl, .ty n, tyx_of gd ht r1, kit_ty hb, k W _ _ H ms (Le.refl W) gd (.bl _) q⟩)
theorem dr_isiC {x : Dat} {T : String} {b : Bool} (ht : tyOf ms x = some T) (hb : PySem.W.kitOne K (.type T) (.ref C) = some b) (q : P (.bl b) ms) : DR K (rIsiX K) [x, .ref C] ms P := fun W G H vs Q gd r k => by
  cases r with
  | cons r1 rr => cases rr with
    | cons r2 rr =>
      cases rr; cases r2
      exact .inl (.inl ⟨_, _, .type T, .ref C, b, rfl, .own C, tyx_of gd ht r1, hb, k W _ _ H ms (Le.refl W) gd (.bl _) q⟩)
theorem dr_isiE {D : Addr} {fs : List (Str × Dat)} {b : Bool} (hT : ExT K D) (hb : PySem.W.kitOne K (.ref D) (.ref C) = some b) (q : P (.bl b) ms) : DR K (rIsiX K) [.exc D fs, .ref C] ms P := fun W G H vs Q gd r k => by
  cases r with
  | cons r1 rr => cases rr with
    | cons r2 rr =>
      cases rr; cases r2
      cases r1 with
      | exc e1 e2 rf => exact .inr (.inl ⟨_, D, _, _, .ref C, .ref C, b, rfl, .own C, hT, gd.fz _ _ e1, gd.fz _ _ e2, hb, k W _ _ H ms (Le.refl W) gd (.bl _) q⟩)
theorem dr_isiEt {D : Addr} {fs : List (Str × Dat)} {b : Bool} {n : String} (hT : ExT K D) (hb : PySem.W.kitOne K (.ref D) (.type n) = some b) (q : P (.bl b) ms) : DR K (rIsiX K) [.exc D fs, .ty n] ms P := fun W G H vs Q gd r k => by
  cases r with
  | cons r1 rr => cases rr with
    | cons r2 rr =>
      cases rr; cases r2
      cases r1 with
      | exc e1 e2 rf => exact .inr (.inl ⟨_, D, _, _, .ty n, .type n, b, rfl, .ty n, hT, gd.fz _ _ e1, gd.fz _ _ e2, hb, k W _ _ H ms (Le.refl W) gd (.bl _) q⟩)
/-! ### try: .. except C as n: suite -/
theorem ds_try {c : Value} {tb : WX → TS} {ts : Addr → Value → Option Addr → TS}
    (h : ∀ R', DS K R' (tb R') e ms { O with ex := fun D ds e' m' => ∃ b, PySem.W.exmOne K (.ref D) c = some b ∧
      (b = true → ∀ a dd, DS K (fun _ _ _ _ => False) (ts a (.ref D) (some dd)) (e'.set i (some (.hot a dd D ds))) m' { nx := fun e2 m2 => O.nx (e2.set i none) m2, rt := O.rt, bk := fun e2 m2 => O.bk (e2.set i none) m2, ct := fun e2 m2 => O.ct (e2.set i none) m2 }) ∧
      (b = false → O.ex D ds e' m') }) : DS K R (fun Dd σ H => tb (wAs K c i ts R Dd) Dd σ H) e ms O := fun W G σ H D gd s ft => by
  have none_set : ∀ {W : Wd} {σ : L2.St} {e : Ev}, Slots K W σ e → Slots K W (σ.set i none) (e.set i none) := fun {W σ e} s => by
    refine ⟨by rw [List.length_set, List.length_set]; exact s.1, fun j d hd => ?_⟩
    by_cases hj : i = j
    · subst hj
      by_cases hl : i < e.length
      · rw [List.getElem?_set_self hl] at hd; cases hd
      · rw [List.getElem?_eq_none (by rw [List.length_set]; omega)] at hd; cases hd
    · rw [List.getElem?_set_ne hj] at hd ⊢
      exact s.2 j d hd
  refine h _ W G σ H D gd s ⟨ft.nx, ft.rt, ft.bk, ft.ct, fun W' σ' e' C d fs ds H' ms' l g' s' hf rf ⟨b, hb, hy, hn⟩ => ⟨b, hb, fun hbt a na => ?_, fun hbf => ft.ex W' σ' e' C d fs ds H' ms' l g' s' hf rf (hn hbf)⟩⟩
  refine hy hbt a d W' G _ H' _ g' (s'.set (.hot hf rf) i) ⟨fun W2 σ2 e2 H2 m2 l2 g2 s2 q => ft.nx W2 _ _ H2 m2 (l.trans l2) g2 (none_set s2) q, ft.rt.le l, fun W2 σ2 e2 H2 m2 l2 g2 s2 q => ft.bk W2 _ _ H2 m2 (l.trans l2) g2 (none_set s2) q, fun W2 σ2 e2 H2 m2 l2 g2 s2 q => ft.ct W2 _ _ H2 m2 (l.trans l2) g2 (none_set s2) q, fun _ _ _ _ _ _ _ _ _ _ _ _ _ _ z => z.elim⟩
end
end DL
namespace DL
open PySem PySem.Spec PyProof.Rows L2
def StrOk : Dat → Prop
  | .str z => z.length ≤ 100000 ∧ ∀ c ∈ z.cps.toList, c < 128
  | _ => True
/-- a value that isinstance can be asked of; a text is no longer than the line -/
inductive VOk (K : PySem.W.Frag) (ms : Ms) : Dat → Prop
  | ty {d : Dat} {T : String} (h : tyOf ms d = some T) (s : StrOk d) : VOk K ms d
  | ex {C : Addr} {fs : List (Str × Dat)} (T : ExT K C) : VOk K ms (.exc C fs)
def isTyD (ms : Ms) (d : Dat) (n : String) : Bool := match tyOf ms d with
  | some T => T == n || (T == "bool" && n == "int")
  | none => false
theorem tyOf_in {ms : Ms} {d : Dat} {T : String} (h : tyOf ms d = some T) : T ∈ (["NoneType", "bool", "int", "str", "list", "tuple", "dict"] : List String) := by
  cases d with
  | cell k =>
    have h' : (match ms[k]? with | some (.lst _) => some "list" | some (.dct _) => some "dict" | _ => none) = some T := h
    revert h'
    cases ms[k]? with
    | none => intro h'; cases h'
    | some m => cases m <;> intro h' <;> cases h' <;> decide
  | _ => cases h <;> decide
theorem kitB_is : ∀ T ∈ (["NoneType", "bool", "int", "str", "list", "tuple", "dict"] : List String), ∀ n ∈ (["str", "tuple", "list", "int", "bool", "dict"] : List String), kitB T n = some (T == n || (T == "bool" && n == "int")) := by decide +kernel
section
variable {K : PySem.W.Frag} {ms : Ms} {P : Dat → Ms → Prop} {d : Dat} {n : String} {R : WX} {e : Ev} {X : XP}
theorem dr_isiV (h : VOk K ms d) (hn : n ∈ (["str", "tuple", "list", "int", "bool", "dict"] : List String)) (q : P (.bl (isTyD ms d n)) ms) : DR K (rIsiX K) [d, .ty n] ms P := by
  cases h with
  | @ty _ T h _ =>
    refine dr_isi h (kitB_is _ (tyOf_in h) n hn) ?_
    have e : isTyD ms d n = (T == n || (T == "bool" && n == "int")) := by unfold isTyD; rw [h]
    rw [e] at q
    exact q
  | ex T => exact dr_isiEt T (T.nt n hn) q
theorem isStr {d : Dat} (h : isTyD ms d "str" = true) : ∃ z, d = .str z := by
  cases d with
  | str z => exact ⟨z, rfl⟩
  | cell k => cases hm : ms[k]? with
    | none => simp [isTyD, tyOf, hm] at h
    | some m => cases m <;> simp [isTyD, tyOf, hm] at h
  | _ => simp [isTyD, tyOf] at h
theorem isTup {d : Dat} (h : isTyD ms d "tuple" = true) : ∃ z, d = .tup z := by
  cases d with
  | tup z => exact ⟨z, rfl⟩
  | cell k => cases hm : ms[k]? with
    | none => simp [isTyD, tyOf, hm] at h
    | some m => cases m <;> simp [isTyD, tyOf, hm] at h
  | _ => simp [isTyD, tyOf] at h
theorem VOk.len {K : PySem.W.Frag} {z : Str} (h : VOk K ms (.str z)) : z.length ≤ 100000 := by
  cases h with
  | ty _ s => exact s.1
theorem VOk.sig {K : PySem.W.Frag} {z : Str} (h : VOk K ms (.str z)) : ∀ c ∈ z.cps.toList, c < 128 := by
  cases h with
  | ty _ s => exact s.2
theorem isTyD_str (z : Str) : isTyD ms (.str z) "str" = true := by simp [isTyD, tyOf]
theorem isTyD_tup (z : List Dat) : isTyD ms (.tup z) "tuple" = true := by simp [isTyD, tyOf]
end
/-- answers of a test -/
theorem both {c : Bool} {A B : Prop} (h1 : c = true → A) (h2 : c = false → B) : (c = true → A) ∧ (c = false → B) := ⟨h1, h2⟩
theorem bothT {A B : Prop} (h : A) : ((true : Bool) = true → A) ∧ ((true : Bool) = false → B) := ⟨fun _ => h, fun z => Bool.noConfusion z⟩
theorem bothF {A B : Prop} (h : B) : ((false : Bool) = true → A) ∧ ((false : Bool) = false → B) := ⟨fun z => Bool.noConfusion z, fun _ => h⟩

theorem bothNT {A B : Prop} (h : B) : ((!true) = true → A) ∧ ((!true) = false → B) := ⟨fun z => Bool.noConfusion z, fun _ => h⟩
theorem bothNF {A B : Prop} (h : A) : ((!false) = true → A) ∧ ((!false) = false → B) := ⟨fun _ => h, fun z => Bool.noConfusion z⟩
section
variable {K : PySem.W.Frag} {ms : Ms} {P : Dat → Ms → Prop} {d : Dat} {n : String} {R : WX} {e : Ev} {X : XP} {wi : TI} {g : TG} {tt : TT} {te : TE} {vs : List Nat}
theorem dr_isiK {b : Bool} (h : VOk K ms d) (hn : n ∈ (["str", "tuple", "list", "int", "bool", "dict"] : List String)) (hb : isTyD ms d n = b) (q : P (.bl b) ms) : DR K (rIsiX K) [d, .ty n] ms P := by
  subst hb
  exact dr_isiV h hn q
theorem filter_range_get {α β : Type} (l : List α) (df : α) (keep : α → Bool) (f : α → β) :
    ((List.range l.length).filter (fun i => keep (l.getD i df))).map (fun i => f (l.getD i df)) = (l.filter keep).map f := by
  have h1 : (List.range l.length).map (fun i => l.getD i df) = l := by
    apply List.ext_getElem
    · simp
    · intro i h1 h2
      simp [List.getD_eq_getElem?_getD, List.getElem?_eq_getElem h2]
  have h2 : ((List.range l.length).filter (fun i => keep (l.getD i df))).map (fun i => l.getD i df) = l.filter keep := by
    conv => rhs; rw [← h1, List.filter_map]
    rfl
  rw [← h2, List.map_map]
  rfl
/-- a comprehension over a text's signs -/
theorem lcw_str {z : Str} {Fin : List Dat → Ms → Prop} (hn : z.cps.toList.length ≤ 1000000) (keep : Nat → Bool) (f : Nat → Dat)
    (h : ∀ c, c ∈ z.cps.toList → DG K g (.str (sign1 c)) (wipeE e vs) ms vs (fun e2 m2 => DT K R tt e2 m2 (fun b m3 => b = keep c ∧ m3 = ms ∧ (b = true → DE K R te e2 ms (fun y m4 => y = f c ∧ m4 = ms) (fun _ _ _ => False))) (fun _ _ _ => False)))
    (q : Fin ((z.cps.toList.filter keep).map f) ms) : LcW K R g tt te vs e z.cps.toList.length (itS z) ms Fin := by
  refine lcw_map hn (fun i => keep (z.cps.toList.getD i 0)) (fun i => f (z.cps.toList.getD i 0)) (fun i hi => ?_) ?_
  · have hm : z.cps.toList.getD i 0 ∈ z.cps.toList := by
      rw [List.getD_eq_getElem?_getD, List.getElem?_eq_getElem hi]
      exact List.getElem_mem hi
    exact h _ hm
  · rw [filter_range_get z.cps.toList 0 keep f]
    exact q
/-- .. over a list -/
theorem lcw_list {xs : List Dat} {Fin : List Dat → Ms → Prop} (hn : xs.length ≤ 1000000) (keep : Dat → Bool) (f : Dat → Dat)
    (h : ∀ c, c ∈ xs → DG K g c (wipeE e vs) ms vs (fun e2 m2 => DT K R tt e2 m2 (fun b m3 => b = keep c ∧ m3 = ms ∧ (b = true → DE K R te e2 ms (fun y m4 => y = f c ∧ m4 = ms) (fun _ _ _ => False))) (fun _ _ _ => False)))
    (q : Fin ((xs.filter keep).map f) ms) : LcW K R g tt te vs e xs.length (itL xs) ms Fin := by
  refine lcw_map hn (fun i => keep (xs.getD i .non)) (fun i => f (xs.getD i .non)) (fun i hi => ?_) ?_
  · have hm : xs.getD i .non ∈ xs := by
      rw [List.getD_eq_getElem?_getD, List.getElem?_eq_getElem hi]
      exact List.getElem_mem hi
    exact h _ hm
  · rw [filter_range_get xs .non keep f]
    exact q
theorem dr_allB {xs : List Dat} {bs : List Bool} (h : xs = bs.map Dat.bl) (q : P (.bl (bs.all id)) ms) : DR K (rAll K) [.lst xs] ms P := by
  subst h
  exact dr_all q
theorem d2_leS1 {x y : Str} {a b : Nat} (hx : x.cps.toList = [a]) (hy : y.cps.toList = [b]) (q : P (.bl (decide (a ≤ b))) ms) : D2 K rLeA (.str x) (.str y) ms P := by
  refine d2_leS ?_
  rw [hx, hy]
  have e : (!decide ([b] < [a])) = decide (a ≤ b) := by
    by_cases h : a ≤ b
    · have h' : ¬ ([b] < [a]) := by
        intro z
        rcases List.cons_lt_cons_iff.mp z with z | ⟨_, z⟩
        · omega
        · exact absurd z (by simp)
      rw [decide_eq_true h, decide_eq_false h']; rfl
    · have h' : [b] < [a] := List.cons_lt_cons_iff.mpr (.inl (by omega))
      rw [decide_eq_false h, decide_eq_true h']; rfl
  rw [e]
  exact q
end
theorem sign1_cps (c : Nat) : (sign1 c).cps.toList = [c] := rfl

theorem fin_b {n : Nat} {P : Dat → Ms → Prop} {ms : Ms} {b c : Bool} (q : P (.bl b) ms) (e : b = c) : RetOk n P (.bl c) ms := .inl (by rw [← e]; exact q)
theorem fin_d {n : Nat} {P : Dat → Ms → Prop} {ms : Ms} {b c : Dat} (q : P b ms) (e : b = c) : RetOk n P c ms := .inl (by rw [← e]; exact q)
theorem all_map_bl (l : List Nat) (p : Nat → Bool) : ((l.filter fun _ => true).map fun c => Dat.bl (p c)) = (l.map p).map Dat.bl := by
  rw [List.filter_eq_self.mpr (fun _ _ => rfl), List.map_map]; rfl
theorem all_id {α : Type} (l : List α) (p : α → Bool) : (l.map p).all id = l.all p := by
  rw [List.all_map]; rfl

theorem sg_a : (Str.ofString "a").cps.toList = [97] := by decide +kernel
theorem sg_z : (Str.ofString "z").cps.toList = [122] := by decide +kernel
theorem sg_sp : (Str.ofString " ").cps.toList = [32] := by decide +kernel
theorem sg_ti : (Str.ofString "~").cps.toList = [126] := by decide +kernel
end DL
namespace DL
open PySem PySem.Spec PyProof.Rows L2
section
variable {P : Program} {w : World} {K : PySem.W.Frag} {mg : Str → Option Value} {base : Heap} {x qual : Str} {f : Addr} {fd : FuncData} {N ps : List Str} {k : Nat} {pr : Arguments} {bd : List Stmt} {sc : Scope} {dvs : List V} {kws : List (Str × V)}
/-- a def with defaults -/
theorem fn_dlD {A : Pm} (F : FunD K x qual pr bd sc dvs kws f fd) (S : FnScope N ps sc) (hlen : ∀ ds ms P X, A ds ms P X → ds.length = ps.length)
    (hb : ∀ (cdv : Value) (Ar : Around) (outer : List Env) (s : Shared) (H : Hp) (E : XK), Room k (Ar.deeper (envOfC qual sc s.heap.objs.size f cdv)) → Quiet (Ar.deeper (envOfC qual sc s.heap.objs.size f cdv)) →
      ∃ t, PSs (cxOf (L2N.CX P w) P w K mg base N qual sc f cdv Ar outer s H E) bd t ∧
        ∀ ds ms Pd X, A ds ms Pd X → BelL ms.length ds → MsBel ms → DS K (fun c d _ H => E c d H) t (startE N ds) ms (bodyOut ms.length Pd X)) :
    FnG P w K mg base (L2N.CX P w) (k + 1) f fd ps (spD K A) := by
  obtain ⟨oc, od, dV, kV, doc, pm, an, cdv, ct, osl, e, lk, hcd, _, _⟩ := F.ex
  subst e
  refine ⟨fun vs H Q E h => ?_, fun Ar outer s H args us vs Q E hr hq e0 hbd r hsp => ?_⟩
  · obtain ⟨W, G, ms, ds, Pd, X, _, r, a, _⟩ := h
    rw [r.length]; exact hlen ds ms Pd X a
  · obtain ⟨W, G, ms, ds, Pd, X, g, rl, a, kP, kX⟩ := hsp
    obtain ⟨t, ht, hd⟩ := hb cdv Ar outer s H E (hr.deeper _) (hq.deeper _)
    have b := RepL.bel ds vs rl
    rw [g.ln] at b
    have hl : vs.length = ps.length := by rw [rl.length]; exact hlen ds ms Pd X a
    refine enter_def lk hcd S hr.depth e0 hbd fun s1 ic => ?_
    have I := inv_start (CX := L2N.CX P w) (E := E) S hr.hd e0 hl r ic
    exact wpAny_mono (ht.run [] s1 _ H _ I (run_body g rl kP kX (hd ds ms Pd X a b g.bel))) (fun fl s' z => flow_end rfl rfl rfl rfl rfl rfl z) fun _ _ z => z
end
section
variable {K : PySem.W.Frag} {ms : Ms} {P : Dat → Ms → Prop} {R : WX} {e : Ev} {X : XP} {te ta : TE} {tl th : TO}
theorem d2_notI {i : Int} (q : P (.bl true) ms) : D2 K rNotA (.int i) .non ms P := d2_notN q
theorem d2_notSt {i : Str} (q : P (.bl true) ms) : D2 K rNotA (.str i) .non ms P := d2_notN q
theorem d2_notNn (q : P (.bl false) ms) : D2 K rNotA .non .non ms P := d2_notN q
theorem d2_notT {i : List Dat} (q : P (.bl true) ms) : D2 K rNotA (.tup i) .non ms P := d2_notN q
theorem d2_isI {i : Int} (q : P (.bl false) ms) : D2 K rIsA (.int i) .non ms P := d2_isN q
theorem d2_isNn (q : P (.bl true) ms) : D2 K rIsA .non .non ms P := d2_isN q
theorem d2_isT {i : List Dat} (q : P (.bl false) ms) : D2 K rIsA (.tup i) .non ms P := d2_isN q
theorem d2_inL {c : Nat} {z : Str} {l : List Nat} (hz : z.cps.toList = l) (q : P (.bl (decide (c ∈ l))) ms) : D2 K (rInA K) (.str (sign1 c)) (.str z) ms P := by
  subst hz
  exact d2_inS q
/-! ### slices -/
/-- a slice's part: nothing, or an int -/
def DO (K : PySem.W.Frag) (R : WX) (t : TO) (e : Ev) (ms : Ms) (P : Option Int → Ms → Prop) (X : XP) : Prop :=
  ∀ (W : Wd) (G : Hp) (σ : L2.St) (H : Hp) (Q : Option Int → Hp → Prop), Good K W G H ms → Slots K W σ e →
    (∀ (W' : Wd) (o : Option Int) (H' : Hp) (ms' : Ms), Le W W' → Good K W' G H' ms' → P o ms' → Q o H') → ExC K W G X (fun c d H' => R c d σ H') → t σ H Q
theorem do_none {P : Option Int → Ms → Prop} (q : P none ms) : DO K R tNoPart e ms P X := fun W G σ H Q g s k _ => k W none H ms (Le.refl W) g q
theorem do_some {P : Option Int → Ms → Prop} (h : DE K R te e ms (fun d m => ∃ i, d = .int i ∧ P (some i) m) X) : DO K R (tPart te) e ms P X := fun W G σ H Q g s k x =>
  h W G σ H _ g s (fun W1 v d H1 m1 l1 g1 r1 ⟨i, hi, p⟩ => by
    subst hi; cases r1
    exact ⟨i, rfl, k W1 (some i) H1 m1 l1 g1 p⟩) x
def DSl (K : PySem.W.Frag) (x : Dat) (lo hi : Option Int) (ms : Ms) (P : Dat → Ms → Prop) : Prop :=
  ∀ (W : Wd) (G H : Hp) (v : V) (Q : VK), Good K W G H ms → Rep K W v x → RtC K W G P Q → rSlA K v lo hi H Q
theorem de_sl (h : DE K R ta e ms (fun x m => DO K R tl e m (fun lo m1 => DO K R th e m1 (fun hi m2 => DSl K x lo hi m2 P) X) X) X) : DE K R (tSl (rSlA K) ta tl th) e ms P X := fun W G σ H Q g s k x => by
  refine h W G σ H _ g s (fun W1 v d H1 m1 l1 g1 r1 h1 => ?_) x
  refine h1 W1 G σ H1 _ g1 (s.mono l1) (fun W2 lo H2 m2 l2 g2 h2 => ?_) (x.le l1)
  refine h2 W2 G σ H2 _ g2 (s.mono (l1.trans l2)) (fun W3 hi H3 m3 l3 g3 h3 => ?_) (x.le (l1.trans l2))
  exact h3 W3 G H3 v Q g3 (Rep.mono (l2.trans l3) _ _ r1) (k.le (l1.trans (l2.trans l3)))
theorem dsl_str {z : Str} {lo hi : Option Int} (hl : z.length ≤ 1000000) (q : P (.str (cutS z lo hi)) ms) : DSl K (.str z) lo hi ms P := fun W G H v Q g r k => by
  cases r
  exact .inr (.inl ⟨z, rfl, size_of hl, k W _ _ H ms (Le.refl W) g (.str _) q⟩)
def cutD (xs : List Dat) (lo hi : Option Int) : List Dat := (xs.drop (HT.sIx xs.length 0 lo)).take (HT.sIx xs.length xs.length hi - HT.sIx xs.length 0 lo)
theorem repL_drop {W : Wd} : ∀ {vs : List V} {ds : List Dat} (n : Nat), RepL K W vs ds → RepL K W (vs.drop n) (ds.drop n)
  | _, _, 0, h => h
  | _, [], n + 1, h => by cases h; exact .nil
  | _, d :: ds, n + 1, h => by cases h with | cons a b => exact repL_drop n b
theorem repL_take {W : Wd} : ∀ {vs : List V} {ds : List Dat} (n : Nat), RepL K W vs ds → RepL K W (vs.take n) (ds.take n)
  | _, _, 0, h => by simp; exact .nil
  | _, [], n + 1, h => by cases h; exact .nil
  | _, d :: ds, n + 1, h => by cases h with | cons a b => exact .cons a (repL_take n b)
theorem dsl_list {x : Dat} {xs : List Dat} {lo hi : Option Int} (hx : x = .lst xs ∨ x = .rol xs ∨ ∃ k, x = .cell k ∧ ms[k]? = some (.lst xs)) (q : P (.lst (cutD xs lo hi)) ms) : DSl K x lo hi ms P := fun W G H v Q g r k => by
  obtain ⟨a, vs, rfl, hq, rl⟩ := lstSq g r hx
  refine .inl ⟨a, vs, rfl, hq, fun p hp => ?_⟩
  obtain ⟨g2, l2⟩ := g.laid (o := .lst (cutV vs lo hi)) hp
  refine k _ _ _ _ _ l2 g2 (.lst upd_same (RepL.mono l2 _ _ ?_)) q
  unfold cutV cutD
  rw [rl.length]
  exact repL_take _ (repL_drop _ rl)
/-! ### methods of texts -/
theorem dr_startswith {a b : Str} (q : P (.bl (Txt.startswith a b)) ms) : DR K (fun vs => match vs with | v :: ws => (fun x xs H Q => ∃ a b, x = V.str a ∧ xs = [V.str b] ∧ Q (.bl (Txt.startswith a b)) H) v ws | [] => fun _ _ => False) [.str a, .str b] ms P := fun W G H vs Q g r k => by
  cases r with
  | cons r1 rr => cases rr with
    | cons r2 rr =>
      cases rr; cases r1; cases r2
      exact ⟨a, b, rfl, rfl, k W _ _ H ms (Le.refl W) g (.bl _) q⟩
theorem dr_partition {a b : Str} (hb : (b.length == 0) = false) (hl : a.length ≤ 1000000) (q : P (.tup [.str (Txt.partition a b).1, .str (Txt.partition a b).2.1, .str (Txt.partition a b).2.2]) ms) :
    DR K (fun vs => match vs with | v :: ws => (fun x xs H Q => ∃ a b, x = V.str a ∧ xs = [V.str b] ∧ (b.length == 0) = false ∧ a.length ≤ sizeLine ∧ ∀ p, H p = none → Q (.ref p) (upd H p (.tup [.str (Txt.partition a b).1, .str (Txt.partition a b).2.1, .str (Txt.partition a b).2.2]))) v ws | [] => fun _ _ => False) [.str a, .str b] ms P := fun W G H vs Q g r k => by
  cases r with
  | cons r1 rr => cases rr with
    | cons r2 rr =>
      cases rr; cases r1; cases r2
      refine ⟨a, b, rfl, rfl, hb, size_of hl, fun p hp => ?_⟩
      obtain ⟨g2, l2⟩ := g.laid (o := .tup [.str (Txt.partition a b).1, .str (Txt.partition a b).2.1, .str (Txt.partition a b).2.2]) hp
      exact k _ _ _ _ _ l2 g2 (.tup (.inl (.inl upd_same)) (.cons (.str _) (.cons (.str _) (.cons (.str _) .nil)))) q
theorem dr_join {a : Str} {ys : List Str} (hl : (ys.map (·.length)).sum + ys.length * a.length ≤ 1000000) (q : P (.str (Txt.join a ys)) ms) :
    DR K (fun vs => match vs with | v :: ws => (fun x xs H Q => ∃ a p, ∃ ys : List Str, x = V.str a ∧ xs = [V.ref p] ∧ (SqL K H p (ys.map V.str) ∨ SqT K H p (ys.map V.str)) ∧ (ys.map (·.length)).sum + ys.length * a.length ≤ 16777216 ∧ Q (.str (Txt.join a ys)) H) v ws | [] => fun _ _ => False) [.str a, .lst (ys.map Dat.str)] ms P := fun W G H vs Q g r k => by
  cases r with
  | cons r1 rr => cases rr with
    | cons r2 rr =>
      cases rr; cases r1
      obtain ⟨b, us, rfl, hq, rl⟩ := lstSq g r2 (.inl rfl)
      rw [strsRep rl] at hq
      exact ⟨a, b, ys, rfl, rfl, .inl hq, by omega, k W _ _ H ms (Le.refl W) g (.str _) q⟩
/-! ### f-strings -/
def DJ (K : PySem.W.Frag) (R : WX) (ts : List TE) (acc : Str) (e : Ev) (ms : Ms) (P : Dat → Ms → Prop) (X : XP) : Prop :=
  ∀ (W : Wd) (G : Hp) (σ : L2.St) (H : Hp) (Q : VK), Good K W G H ms → Slots K W σ e → RtC K W G P Q → ExC K W G X (fun c d H' => R c d σ H') → tJs ts acc σ H fun out H1 => Q (.str out) H1
theorem dj_nil {acc : Str} (q : P (.str acc) ms) : DJ K R [] acc e ms P X := fun W G σ H Q g s k _ => k W _ _ H ms (Le.refl W) g (.str _) q
theorem dj_cons {t : TE} {ts : List TE} {acc : Str} (h : DE K R t e ms (fun d m => ∃ y, d = .str y ∧ (acc ++ y).length ≤ 1000000 ∧ DJ K R ts (acc ++ y) e m P X) X) : DJ K R (t :: ts) acc e ms P X := fun W G σ H Q g s k x =>
  h W G σ H _ g s (fun W1 v d H1 m1 l1 g1 r1 ⟨y, hy, hl, p⟩ => by
    subst hy; cases r1
    exact ⟨y, rfl, size_of hl, p W1 G σ H1 Q g1 (s.mono l1) (k.le l1) (x.le l1)⟩) x
theorem de_fstr {ts : List TE} (h : DJ K R ts Str.empty e ms P X) : DE K R (fun σ H Q => tJs ts Str.empty σ H fun out H1 => Q (.str out) H1) e ms P X := h
theorem de_fmtS (h : DE K R te e ms (fun d m => ∃ z, d = .str z ∧ z.length ≤ 1000000 ∧ P (.str z) m) X) : DE K R (tFmt te) e ms P X := fun W G σ H Q g s k x =>
  h W G σ H _ g s (fun W1 v d H1 m1 l1 g1 r1 ⟨z, hz, hl, p⟩ => by
    subst hz; cases r1
    exact .inl ⟨z, rfl, size_of hl, k W1 _ _ H1 m1 l1 g1 (.str _) p⟩) x
end

section
variable {K : PySem.W.Frag} {ms : Ms} {P : Dat → Ms → Prop} {R : WX} {e : Ev} {O : Out} {ta : TE} {g : TG}
theorem dr_lenT {xs : List Dat} (q : P (.int xs.length) ms) : DR K (rLenK K) [.tup xs] ms P := dr_len (.inr (.inl rfl)) q
theorem dr_lenL {xs : List Dat} (q : P (.int xs.length) ms) : DR K (rLenK K) [.lst xs] ms P := dr_len (.inl rfl) q
theorem dr_lenR {xs : List Dat} (q : P (.int xs.length) ms) : DR K (rLenK K) [.rol xs] ms P := dr_len (.inr (.inr (.inl rfl))) q
theorem dr_lenC {k : Nat} {xs : List Dat} (h : ms[k]? = some (.lst xs)) (q : P (.int xs.length) ms) : DR K (rLenK K) [.cell k] ms P := dr_len (.inr (.inr (.inr ⟨k, rfl, h⟩))) q
/-- a store to any target -/
theorem ds_to (h : DE K R ta e ms (fun d m => DG K g d e m (List.range 40) O.nx) (O.xp e)) : DS K R (tAsg ta g) e ms O := ds_asg h
end

section
variable {K : PySem.W.Frag} {ms : Ms} {e : Ev} {u : TGs} {vs : List Nat} {P : Ev → Ms → Prop} {a b c d : Dat}
theorem dg_tup1 (h : DGs K u [a] e ms vs P) : DG K (gTup K 1 u) (.tup [a]) e ms vs P := dg_tup rfl h
theorem dg_tup2 (h : DGs K u [a, b] e ms vs P) : DG K (gTup K 2 u) (.tup [a, b]) e ms vs P := dg_tup rfl h
theorem dg_tup3 (h : DGs K u [a, b, c] e ms vs P) : DG K (gTup K 3 u) (.tup [a, b, c]) e ms vs P := dg_tup rfl h
theorem dg_tup4 (h : DGs K u [a, b, c, d] e ms vs P) : DG K (gTup K 4 u) (.tup [a, b, c, d]) e ms vs P := dg_tup rfl h
end

theorem len_empty : Str.empty.length = 0 := rfl
theorem len_sp : (Str.ofString " ").length = 1 := by decide +kernel
theorem empty_app (a : Str) : Str.empty ++ a = a := by
  apply TL.ext_tl
  rw [TL.tl_append]
  rfl

theorem split_first {l : List Nat} {s : Nat} (h : s ∈ l) : ∃ a b, l = a ++ s :: b ∧ s ∉ a := by
  induction l with
  | nil => cases h
  | cons x l ih =>
    by_cases e : x = s
    · exact ⟨[], l, by rw [e]; rfl, by simp⟩
    · obtain ⟨a, b, e1, e2⟩ := ih (by rcases List.mem_cons.mp h with z | z; exact absurd z.symm e; exact z)
      refine ⟨x :: a, b, by rw [e1]; rfl, ?_⟩
      intro m
      rcases List.mem_cons.mp m with z | z
      · exact e z.symm
      · exact e2 z
theorem part_cases (z : Str) : (32 ∉ z.cps.toList ∧ Txt.partition z (Str.ofString " ") = (z, Str.empty, Str.empty)) ∨ ∃ a b : Str, z = a ++ (Str.ofString " ") ++ b ∧ 32 ∉ a.cps.toList ∧ Txt.partition z (Str.ofString " ") = (a, Str.ofString " ", b) := by
  by_cases h : 32 ∈ z.cps.toList
  · obtain ⟨a, b, e, n⟩ := split_first h
    have ez : z = (⟨a.toArray⟩ : Str) ++ (Str.ofString " ") ++ (⟨b.toArray⟩ : Str) := by
      apply TL.ext_tl
      rw [TL.tl_append, TL.tl_append]
      show z.cps.toList = a ++ (Str.ofString " ").cps.toList ++ b
      rw [e, sg_sp]; simp
    refine .inr ⟨⟨a.toArray⟩, ⟨b.toArray⟩, ez, n, ?_⟩
    conv => lhs; rw [ez]
    exact TL.partition_app (s := 32) (S := []) sg_sp n
  · exact .inl ⟨h, TL.partition_none (s := 32) (S := []) sg_sp h⟩
end DL
namespace DL
open PySem PySem.Spec PyProof.Rows L2
/-! ### a comprehension where an error is handled -/
/-- the block's context; the handled error stays pinned -/
abbrev blkH (X : Cx) (s : Shared) (H : Hp) (scope : Scope) (ce : Env) (fp : List Addr) : Cx := { X.blk s H scope ce fp with pn := X.pn }
section
variable {X : Cx} {pins : List (Addr × Obj)} {σ : L2.St} {H : Hp} {s : Shared} {scope : Scope} {own : List (Str × Nat)} {fp : List Addr}
theorem hotBlk {ce : Env} (h : L2H.HotC X) : L2H.HotC (blkH X s H scope ce fp) := h
theorem startBlkH (J : Inv X pins σ H s) (bo : BlkOk X.N X.env.scope scope own) (nd : X.N.Nodup) (hf : ∀ b ∈ fp, FpOk X pins H b ∧ b < s.heap.objs.size) :
    Inv (blkH X s H scope (compEnvC scope (cellsFrom (s.heap.objs.size + 1) scope.names (cloFrom X.env.cells scope.names [])) s.heap.objs.size X.env) fp) [] (wipe σ (own.map (·.2))) H { s with heap := pushCells (s.heap.push { cls := .type "dict", data := .dict #[] }) scope.names } := by
  have B := block_start J bo nd hf
  obtain ⟨⟨a1, a2, a3, a4, a5, a6, a7, a8, a9, a10, a11, a12, a13, a14, a15, a16, a17, a18⟩, b2, b3, b4, b5, b6, b7, b8, _, b10, b11⟩ := B
  refine ⟨⟨a1, a2, a3, a4, a5, a6, a7, a8, a9, a10, a11, a12, a13, a14, a15, a16, a17, a18⟩, b2, b3, b4, b5, b6, b7, b8, fun p hp => ?_, b10, b11⟩
  obtain ⟨c1, c2, c3, c4, c5⟩ := J.pin p (List.mem_append_left _ (by simpa using (show p ∈ X.pn ++ [] from hp)))
  refine ⟨pushCells_keeps _ _ _ _ (Heap.get?_push_of_some _ c1), c2, Nat.ne_of_lt (Heap.lt_size c1), fun z => ?_, c5⟩
  rcases List.mem_cons.mp (J.stkSub p.1 z) with z | z
  · exact c3 z
  · exact c4 z
variable {Q : VK} {elt tg iter : Expr} {ifs : List Expr} {pos pos' : Pos} {wi : TI} {g : TG} {tt : TT} {te : TE} {use : Option (Value → Sem Unit)} {Qf : Value → Shared → Prop}
/-- what holds between two turns -/
def Mid (Xb : Cx) (τ : L2.St) (fp : List Addr) (tn : Nat → Heap → Prop) (M : Nat → Nat → Hp → Prop) (n : Nat) (z : Shared) : Prop := ∃ i Hz, Inv Xb [] τ Hz z ∧ tn i z.heap ∧ (∀ b ∈ fp, Hz b = none) ∧ M i n Hz
theorem fpBlk {Xb : Cx} {τ : L2.St} {Hz : Hp} {z : Shared} {tn : Nat → Heap → Prop} {i : Nat} (J : Inv Xb [] τ Hz z) (hx : Xb.ex = fp) (no : ∀ b ∈ fp, Hz b = none) (st : tn i z.heap)
    (np : ∀ p ∈ Xb.pn, p.1 ∉ fp) : ∀ b ∈ fp, FpOk Xb [] Hz b := fun b hb => by
  have hb' : b ∈ Xb.ex := by rw [hx]; exact hb
  obtain ⟨u1, u2⟩ := J.ok.exf b hb'
  exact ⟨no b hb, u1, J.ok.exfs b hb', Or.inl hb', fun x c e => u2 x c e, fun p hp z => np p (by simpa using hp) (z ▸ hb)⟩
theorem compHot (hot : L2H.HotC X) (nd : X.N.Nodup) (J : Inv X pins σ H s) (itr : L2H.PIH X tg iter wi) (bo : BlkOk X.N X.env.scope scope own)
    (tgs : ∀ s H C cl fp, PG (blkH X s H scope (compEnvC scope cl C X.env) fp) tg g) (tst : ∀ s H C cl fp, PTs (blkH X s H scope (compEnvC scope cl C X.env) fp) ifs tt)
    (el : ∀ s H C cl fp, PE (blkH X s H scope (compEnvC scope cl C X.env) fp) elt te) (fz : ∀ x, foldedSetIterable iter X.env x = pure x) (hw : tLc wi g tt te (own.map (·.2)) σ H Q)
    (back : ∀ D C z m Hz, Inv X pins σ Hz z → Q (.ref D) Hz → z.heap.Ns C m → FpOk X pins Hz C → compPost (model X.prog X.w) X.A X.xe use Qf (.ref D) C (.ok .next) z) :
    wpAny (model X.prog X.w) X.A (comprehension (.ListComp elt [⟨tg, iter, ifs, 0⟩] scope pos) scope X.env pos' (newList []) false (eval iter X.env) use) Qf X.xe s := by
  have fr : ∀ y ∈ scope.names, y.2 = .free → ∃ c, X.env.cells.lookup y.1 = some c := fun y hy e => by
    have := bo.free y hy e
    exact J.ok.has _ (this.imp id id)
  refine wpAny_comprehension_free (use := use) rfl fz (closure_ok fr) bo.kind (fun y hy e => by rw [bo.uniq y hy, e])
    (wpAny_mono (itr.run pins s σ H _ J hw) (fun _ _ h1 => wpAny_mono h1 (fun itv s2 h2 => ?_) fun _ _ z => z) fun _ _ z => z)
  obtain ⟨it, fp, tn, It, H2, rfl, J2, T, t2, f2, walk⟩ := h2
  refine wpAny_newObj_type (newEnv_comp ?_) (by show 0 ≤ sizeLine; decide)
  have J3 := J2.lnew (ys := []) (its := []) (t' := s2.toks) .nil (Nat.zero_le _)
  obtain ⟨M, ⟨m0, start⟩, turn⟩ := walk s2.heap.objs.size J2.fresh
  have young : ∀ b ∈ fp, b < s2.heap.objs.size := fun b hb => (T.obj _ _ t2 b hb).elim fun o h => Heap.lt_size h.1
  have npin : ∀ p ∈ X.pn, p.1 ∉ fp := fun p hp hb => (f2 _ hb).2.2.2.2.2 p (List.mem_append_left _ hp) rfl
  generalize hs3 : ({ s2 with heap := s2.heap.push { cls := .type "list", data := .seq ([] : List Value).toArray }, toks := s2.toks } : Shared) = s3 at J3
  have heap3 : s3.heap = s2.heap.push { cls := .type "list", data := .seq ([] : List Value).toArray } := by rw [← hs3]
  generalize hH3 : upd H2 s2.heap.objs.size (.lst []) = H3 at J3 start
  have f3 : ∀ b ∈ fp, FpOk X pins H3 b ∧ b < s3.heap.objs.size := fun b hb => by
    have lt := young b hb
    obtain ⟨q0, q1⟩ := f2 b hb
    rw [heap3, Heap.size_push, ← hH3]
    exact ⟨⟨(upd_ne (Nat.ne_of_lt lt)).trans q0, q1⟩, Nat.lt_succ_of_lt lt⟩
  have t3 : tn 0 s3.heap := T.keep _ _ _ t2 fun b _ o e => by rw [heap3]; exact Heap.get?_push_of_some _ e
  have J4 := startBlkH J3 bo nd f3
  generalize hs4 : ({ s3 with heap := pushCells (s3.heap.push { cls := .type "dict", data := .dict #[] }) scope.names } : Shared) = s4 at J4
  have t4 : tn 0 s4.heap := T.keep _ _ _ t3 fun b _ o e => by rw [← hs4]; exact pushCells_keeps _ _ _ _ (Heap.get?_push_of_some _ e)
  have pg := tgs s3 H3 s3.heap.objs.size (cellsFrom (s3.heap.objs.size + 1) scope.names (cloFrom X.env.cells scope.names [])) fp
  have pt := tst s3 H3 s3.heap.objs.size (cellsFrom (s3.heap.objs.size + 1) scope.names (cloFrom X.env.cells scope.names [])) fp
  have pe := el s3 H3 s3.heap.objs.size (cellsFrom (s3.heap.objs.size + 1) scope.names (cloFrom X.env.cells scope.names [])) fp
  generalize hce : compEnvC scope (cellsFrom (s3.heap.objs.size + 1) scope.names (cloFrom X.env.cells scope.names [])) s3.heap.objs.size X.env = ce at J4 pg pt pe
  have loc : ce.locals = s3.heap.objs.size := by rw [← hce]; rfl
  have hotB : L2H.HotC (blkH X s3 H3 scope ce fp) := hot
  have all : codeAny (model X.prog X.w) X.A (.compLoop (.ListComp elt [⟨tg, iter, ifs, 0⟩] scope pos) 0 (.ref it) (.ref s2.heap.objs.size) ce) (compPost (model X.prog X.w) X.A X.xe use Qf (.ref s2.heap.objs.size) s3.heap.objs.size) s4 := by
    refine compLoop_any (Mid (blkH X s3 H3 scope ce fp) (wipe σ (own.map (·.2))) fp tn M) ?_ m0 ⟨0, H3, J4, t4, fun b hb => (f3 b hb).1.1, start⟩
    rintro n z ⟨i, Hz, Jz, tz, nz, mz⟩
    have fz' := fpBlk (fp := fp) Jz rfl nz tz npin
    rcases turn i n Hz mz with ⟨stop, q⟩ | ⟨go, Nx, less, step⟩
    · refine thnF (T.done (blkH X s3 H3 scope ce fp) rfl rfl rfl hotB i [] z _ Hz (fun _ _ => False) Jz fz' tz stop) ?_
      rintro r z6 ⟨rfl, J6⟩
      have J7 : Inv X pins σ Hz z6 := J3.call' (ch := fp) J6.os J6.base J6.hok J6.bare fun b hb => by
        obtain ⟨_, w1, w2, w3, w4, w5⟩ := (f3 b hb).1
        exact ⟨w3, w1, w4, w5⟩
      obtain ⟨m, ns, _⟩ := J6.loc
      have cfree := J6.free
      rw [show (blkH X s3 H3 scope ce fp).env.locals = s3.heap.objs.size from loc] at ns cfree
      exact back _ _ z6 m Hz J7 q ns (J3.fpOk (Nat.le_refl _) cfree)
    · refine thnF (T.item (blkH X s3 H3 scope ce fp) rfl rfl rfl hotB i [] z _ Hz (fun _ _ => False) Jz fz' tz go) ?_
      rintro r z6 ⟨u, rfl, h6⟩
      refine thnF h6 ?_
      rintro _ z7 ⟨x, H7, J7, r7, y7, t7, n7⟩
      have P7 := J7.pinned (fpBlk (fp := fp) J7 rfl n7 t7 npin) (T.obj _ _ t7)
      refine thnF (pg.run _ z7 _ H7 x u _ P7 r7 (step x H7 y7)) ?_
      rintro _ z8 ⟨σ8, H8, J8, w8, q8⟩
      have again : ∀ {z' : Shared} {H' : Hp}, Inv (blkH X s3 H3 scope ce fp) ([] ++ pinsAt fp z7.heap) σ8 H' z' → Nx H' → ∃ m, m < n ∧ Mid (blkH X s3 H3 scope ce fp) (wipe σ (own.map (·.2))) fp tn M m z' := fun {z' H'} J' nx => by
        obtain ⟨m', lt, ok'⟩ := less H' nx
        have stay : ∀ b ∈ fp, ∀ o, z7.heap.get? b = some o → z'.heap.get? b = some o ∧ H' b = none := fun b hb o e => by
          obtain ⟨k1, k2, _⟩ := J'.pin (b, o) (List.mem_append_right _ (List.mem_append_right _ (mem_pinsAt hb e)))
          exact ⟨k1, k2⟩
        refine ⟨m', lt, i + 1, H', (J'.unpinned (pins := [])).weak (by rw [← w8, wipe_length]) (fun j v e => ?_), T.keep _ _ _ t7 fun b hb o e => (stay b hb o e).1, fun b hb => ?_, ok'⟩
        · exact (wipe_some (by rw [w8]; exact e)).1
        · obtain ⟨o, e, _⟩ := T.obj _ _ t7 b hb
          exact (stay b hb o e).2
      refine thnF (pt.run _ z8 σ8 H8 _ J8 q8) ?_
      rintro b z9 ⟨H9, J9, q9⟩
      cases b with
      | false => exact again J9 q9
      | true =>
        refine thnF (pe.run _ z9 σ8 H9 _ J9 q9) ?_
        rintro v z10 ⟨yv, H10, J10, r10, acc, l10, s10, nx⟩
        exact app_ok (X := blkH X s3 H3 scope ce fp) J10 l10 s10 r10 fun z11 J11 => again J11 nx
  subst hce
  exact codeAny_compStart_list all (T.self X.A 0 _ _ _ t4 all)
/-- [e for x in ..] there -/
theorem pe_lcH (hot : L2H.HotC X) (nd : X.N.Nodup) (itr : L2H.PIH X tg iter wi) (bo : BlkOk X.N X.env.scope scope own)
    (tgs : ∀ s H C cl fp, PG (blkH X s H scope (compEnvC scope cl C X.env) fp) tg g) (tst : ∀ s H C cl fp, PTs (blkH X s H scope (compEnvC scope cl C X.env) fp) ifs tt)
    (el : ∀ s H C cl fp, PE (blkH X s H scope (compEnvC scope cl C X.env) fp) elt te) (fz : ∀ x, foldedSetIterable iter X.env x = pure x := by intro _; rfl) :
    PE X (.ListComp elt [⟨tg, iter, ifs, 0⟩] scope pos) (tLc wi g tt te (own.map (·.2))) := ⟨fun pins s σ H Q J hw => by
  rw [eval_ListComp]
  refine compHot hot nd J itr bo tgs tst el fz hw ?_
  rintro D C z m Hz J' q ns ⟨w0, w1, w2, w3, w4, w5⟩
  exact ⟨m, ns, fun h'' sb => ⟨.ref D, Hz, J'.turned (t' := z.toks) (fun b o ne e => (sb.2 b ne).trans e) w0 w1 w3 w4 w5, rfl, q⟩⟩⟩
end
end DL
namespace DL
open PySem PySem.Spec PyProof.Rows L2 HotX
/-! ### a text walked where an error is handled -/
section
variable {prog : Program} {w : World} {A : Around} {E : Value → Shared → Prop} {s : Shared}
theorem hot_ne {x1 it : Addr} {o1 o2 : Obj} {v1 v2 : Array Value} {h : Heap} (h1 : h.get? x1 = some o1) (d1 : o1.data = .fields v1) (c1 : v1[2]? = some .none) (h2 : h.get? it = some o2) (d2 : o2.data = .fields v2) (c2 : v2.size = 2) : x1 ≠ it := fun z => by
  subst z
  rw [h1] at h2
  cases h2
  rw [d1] at d2
  cases d2
  rw [Array.getElem?_eq_none (by omega)] at c1
  cases c1
theorem asciiEndHot {it x1 : Addr} {x : Str} {t : Tok} {i : Nat} {Q : Option Value → Shared → Prop} (hot : HotAt A x1 s.heap) (hit : s.heap.IsStrIter it "str_ascii_iterator" x t i) (hx : x.cps[i]? = none)
    (hQ : ∀ h', Heap.ExtBut it s.heap h' → Q none { s with heap := h' }) : wpAny (model prog w) A (pyNext (.ref it)) Q E s := by
  have ty := hit.typeIs
  obtain ⟨o, ho, hc, hd⟩ := hit
  obtain ⟨hh, o1, vs1, h1, d1, c1⟩ := hot
  have ne : x1 ≠ it := hot_ne h1 d1 c1 ho hd rfl
  have keepX : ∀ {f : Obj → Obj}, (s.heap.update it f).get? x1 = some o1 := fun {f} => by rw [Heap.get?_update_other _ _ (Ne.symm ne)]; exact h1
  unfold pyNext
  refine wpAny_bind (wpAny_attempt (wpAny_callSpecial?_slot (name := Str.ofString "__next__") ty F.slot_str_ascii_iterator_next
    (wpAny_call_entry F.slot_str_ascii_iterator_next ty F.entry_str_ascii_iterator_next (?_ : wpAny _ _ (field (.ref it) 0 >>= _) _ _ s) (F.args_str_ascii_iterator_next_1 _))))
  refine wpAny_bind (wpAny_field ho hd (x := .str x t) rfl (?_ : wpAny _ _ (field (.ref it) 1 >>= _) _ _ s))
  refine wpAny_bind (wpAny_field ho hd (x := .int i 0) rfl ?_)
  simp only [Int.toNat_natCast, hx]
  refine wpAny_bind (wpAny_rule (wpAny_bind (wpAny_setField ho hd (by simp) (wpAny_bind (wpAny_letGo (?_ : wpAny _ _ (newExc (.type "StopIteration") [] >>= _) _ _ _))))))
  refine wpAny_bind ?_
  simp only [newExc, newTuple]
  refine wpAny_bind (wpAny_newObj_type ?_ (by size_fits))
  refine wpAny_bind (m := firstArgMember _ _) (wpAny_of_eq (a := Value.none) (by first | rfl | (simp only [firstArgMember]; rfl)) (wpAny_newObj_type ?_ (by size_fits)))
  refine raiseNew_hot ⟨hh, o1, vs1, Heap.get?_push_of_some _ (Heap.get?_push_of_some _ keepX), d1, c1⟩ (Nat.ne_of_lt (Heap.lt_size (Heap.get?_push_of_some _ keepX))) (Heap.get?_push_size _ rfl) rfl (by first | (simp; done) | (simp; omega)) ?_
  refine wpAny_bind (wpAny_isInstance (T := "StopIteration") (b := true) ⟨_, Heap.get?_update_self _ (Heap.get?_push_size _ rfl) rfl, rfl⟩ isSubtype_stop (wpAny_pure (hQ _ fun b ob hb e => ?_)))
  have kb : ∀ {f : Obj → Obj}, (s.heap.update it f).get? b = some ob := fun {f} => by rw [Heap.get?_update_other _ _ (Ne.symm hb)]; exact e
  exact (Heap.get?_update_other _ _ (Nat.ne_of_gt (Heap.lt_size (Heap.get?_push_of_some _ kb)))).trans (Heap.get?_push_of_some _ (Heap.get?_push_of_some _ kb))
theorem wideEndHot {it x1 : Addr} {x : Str} {t : Tok} {i : Nat} {Q : Option Value → Shared → Prop} (hot : HotAt A x1 s.heap) (hit : s.heap.IsStrIter it "str_iterator" x t i) (hx : x.cps[i]? = none)
    (hQ : ∀ h', Heap.ExtBut it s.heap h' → Q none { s with heap := h' }) : wpAny (model prog w) A (pyNext (.ref it)) Q E s := by
  have ty := hit.typeIs
  obtain ⟨o, ho, hc, hd⟩ := hit
  obtain ⟨hh, o1, vs1, h1, d1, c1⟩ := hot
  have ne : x1 ≠ it := hot_ne h1 d1 c1 ho hd rfl
  have keepX : ∀ {f : Obj → Obj}, (s.heap.update it f).get? x1 = some o1 := fun {f} => by rw [Heap.get?_update_other _ _ (Ne.symm ne)]; exact h1
  unfold pyNext
  refine wpAny_bind (wpAny_attempt (wpAny_callSpecial?_slot (name := Str.ofString "__next__") ty F.slot_str_iterator_next
    (wpAny_call_entry F.slot_str_iterator_next ty F.entry_str_iterator_next (?_ : wpAny _ _ (field (.ref it) 0 >>= _) _ _ s) (F.args_str_iterator_next_1 _))))
  refine wpAny_bind (wpAny_field ho hd (x := .str x t) rfl (?_ : wpAny _ _ (field (.ref it) 1 >>= _) _ _ s))
  refine wpAny_bind (wpAny_field ho hd (x := .int i 0) rfl ?_)
  simp only [Int.toNat_natCast, hx]
  refine wpAny_bind (wpAny_rule (wpAny_bind (wpAny_setField ho hd (by simp) (wpAny_bind (wpAny_letGo (?_ : wpAny _ _ (newExc (.type "StopIteration") [] >>= _) _ _ _))))))
  refine wpAny_bind ?_
  simp only [newExc, newTuple]
  refine wpAny_bind (wpAny_newObj_type ?_ (by size_fits))
  refine wpAny_bind (m := firstArgMember _ _) (wpAny_of_eq (a := Value.none) (by first | rfl | (simp only [firstArgMember]; rfl)) (wpAny_newObj_type ?_ (by size_fits)))
  refine raiseNew_hot ⟨hh, o1, vs1, Heap.get?_push_of_some _ (Heap.get?_push_of_some _ keepX), d1, c1⟩ (Nat.ne_of_lt (Heap.lt_size (Heap.get?_push_of_some _ keepX))) (Heap.get?_push_size _ rfl) rfl (by first | (simp; done) | (simp; omega)) ?_
  refine wpAny_bind (wpAny_isInstance (T := "StopIteration") (b := true) ⟨_, Heap.get?_update_self _ (Heap.get?_push_size _ rfl) rfl, rfl⟩ isSubtype_stop (wpAny_pure (hQ _ fun b ob hb e => ?_)))
  have kb : ∀ {f : Obj → Obj}, (s.heap.update it f).get? b = some ob := fun {f} => by rw [Heap.get?_update_other _ _ (Ne.symm hb)]; exact e
  exact (Heap.get?_update_other _ _ (Nat.ne_of_gt (Heap.lt_size (Heap.get?_push_of_some _ kb)))).trans (Heap.get?_push_of_some _ (Heap.get?_push_of_some _ kb))
end
theorem turn_strHot {P : Program} {w : World} {K : PySem.W.Frag} {tg : Expr} (it : Addr) (x : Str) (t : Tok) (ty : String) (hty : ty = "str_ascii_iterator" ∨ ty = "str_iterator") :
    L2H.TurnH P w K tg (Its x) [it] it (fun i h => h.IsStrIter it ty x t i) where
  mem := List.mem_singleton.mpr rfl
  obj := fun i h ⟨o, e, _, d⟩ b hb => by
    cases List.mem_singleton.mp hb
    refine ⟨o, e, fun v z => ?_⟩
    rw [d] at z
    cases z
  keep := fun i h h' ⟨o, e, q⟩ k => ⟨o, k it (List.mem_singleton.mpr rfl) o e, q⟩
  item := by
    rintro X rfl rfl rfl hot i pins s σ H E J hf st hg
    obtain ⟨f0, f1, f2, f3, f4, f5⟩ := hf it (List.mem_singleton.mpr rfl)
    obtain ⟨c, hc⟩ : ∃ c, x.cps[i]? = some c := ⟨_, Array.getElem?_eq_getElem hg⟩
    have fin : ∀ (h' : Heap), h'.IsStrIter it ty x t (i + 1) → Heap.SameBut it s.heap h' → ∃ u, some (Value.str ⟨#[c]⟩ s.toks) = some u ∧
      wpAny (model X.prog X.w) X.A (letOwnedTupleGo tg (.ref it) u) (fun _ s2 => ∃ x' H', Inv X pins σ H' s2 ∧ RelV x' u ∧ (Its x).yld i H x' H' ∧ s2.heap.IsStrIter it ty x t (i + 1) ∧ ∀ b ∈ [it], H' b = none) E { s with heap := h', toks := s.toks + 1 } := fun h' st' sb => by
      have no : ["enumerate", "zip", "dict_itemiterator", "dict_reverseitemiterator", "odict_iterator", "itertools.zip_longest", "itertools.pairwise"].contains ty = false := by rcases hty with e | e <;> subst e <;> decide
      have ok' := st'
      obtain ⟨o, e, cc, dd⟩ := ok'
      refine ⟨_, rfl, go_of (s := { s with heap := h', toks := s.toks + 1 }) e cc dd no ⟨.str ⟨#[c]⟩, H, J.turned (fun b o hb e => (sb.2 b hb).trans e) f0 f1 f3 f4 f5, ⟨_, rfl⟩, ⟨rfl, c, hc, rfl⟩, st', fun b hb => (hf b hb).1⟩⟩
    rcases hty with e | e <;> subst e
    · exact wpAny_pyNext_ascii_item st hc fin
    · exact wpAny_pyNext_wide_item st hc fin
  done := by
    rintro X rfl rfl rfl hot i pins s σ H E J hf st hg
    obtain ⟨f0, f1, f2, f3, f4, f5⟩ := hf it (List.mem_singleton.mpr rfl)
    have hx : x.cps[i]? = none := Array.getElem?_eq_none hg
    obtain ⟨x1, hx1⟩ := hot.at J
    have fin : ∀ h', Heap.ExtBut it s.heap h' → (none : Option Value) = none ∧ Inv X pins σ H { s with heap := h' } := fun h' eb => ⟨rfl, J.turned (t' := s.toks) (fun b o hb e => eb b o hb e) f0 f1 f3 f4 f5⟩
    rcases hty with e | e <;> subst e
    · exact asciiEndHot hx1 st hx fin
    · exact wideEndHot hx1 st hx fin
  self := fun A i s Q E st h => by
    rcases hty with e | e <;> subst e
    · exact wpAny_pyIter_striter_ascii st h
    · exact wpAny_pyIter_striter_wide st h
theorem one_iterH {X : Cx} {tg : Expr} {pins : List (Addr × Obj)} {σ : L2.St} {H : Hp} {s : Shared} {R : It → Hp → Prop} {J : It} {tn : Nat → Heap → Prop} {tk : Nat} (I : Inv X pins σ H s) (o : Obj)
    (T : L2H.TurnH X.prog X.w X.K tg J [s.heap.objs.size] s.heap.objs.size tn) (st : tn 0 (s.heap.push o)) (q : R J H) : L2H.PIEH X pins σ tg R (.ref s.heap.objs.size) { s with heap := s.heap.push o, toks := tk } :=
  ⟨_, _, tn, J, H, rfl, I.kept fun b ob e => Heap.get?_push_of_some _ e, T, st, fun b hb => by
    cases List.mem_singleton.mp hb
    exact I.fpOk (Nat.le_refl _) (I.hok.fresh (Nat.le_refl _)), q⟩
theorem pi_strH {X : Cx} {tg e : Expr} {te : TE} (he : PE X e te) : L2H.PIH X tg e (iStr te) := ⟨fun pins s σ H R I h => by
  refine thn (he.run pins s σ H _ I h) ?_
  rintro v s1 ⟨y, H1, I1, r1, x, rfl, q⟩
  obtain ⟨t, rfl⟩ := r1
  by_cases ha : x.cps.all (· < 128) = true
  · exact wpAny_pyIter_ascii ha (one_iterH (tk := s1.toks) I1 _ (turn_strHot _ x t _ (.inl rfl)) ⟨_, Heap.get?_push_size _ rfl, rfl, rfl⟩ q)
  · exact wpAny_pyIter_wide (by simpa using ha) (one_iterH (tk := s1.toks) I1 _ (turn_strHot _ x t _ (.inr rfl)) ⟨_, Heap.get?_push_size _ rfl, rfl, rfl⟩ q)⟩
end DL
namespace DL
open PySem PySem.Spec PyProof.Rows L2
section
variable {Xc : Cx} {K : PySem.W.Frag}
/-! ### rules whose reading names the model's fragment by itself (within a comprehension's block) -/
theorem opK {f : Value → Value → Sem Value} {r : PySem.W.Frag → R2} (hK : Xc.K = K) (h : OpR Xc f (r Xc.K)) : OpR Xc f (r K) := by subst hK; exact h
theorem crK {f : Value} {r : PySem.W.Frag → List V → Hp → VK → Prop} (hK : Xc.K = K) (h : CallR Xc f (r Xc.K)) : CallR Xc f (r K) := by subst hK; exact h
theorem ixK {r : PySem.W.Frag → R2} (hK : Xc.K = K) (h : IxR Xc (r Xc.K)) : IxR Xc (r K) := by subst hK; exact h
theorem slK {r : PySem.W.Frag → V → Option Int → Option Int → Hp → VK → Prop} (hK : Xc.K = K) (h : SlR Xc (r Xc.K)) : SlR Xc (r K) := by subst hK; exact h
/-! ### calls by name -/
structure KwB (K : PySem.W.Frag) (fd : FuncData) (ps : List Str) : Prop where
  to : ∀ (s : Shared) (ws : List Value), K.In s.heap → ws.length = ps.length → BindsTo s fd ⟨[], ps.zip ws⟩ (ps.zip ws)
variable {cx : CXT} {k : Nat} {f : Addr} {fd : FuncData} {ps : List Str} {sp : Sp} {E : L2.St → XK} {x : Str} {p pos : Pos} {t : TA} {kws : List Keyword}
theorem pe_gk (F : FnG Xc.prog Xc.w Xc.K Xc.mg Xc.base cx k f fd ps sp) (hr : Room k Xc.A) (hq : Quiet Xc.A) (hg : Gl Xc x) (hm : Xc.mg x = some (.ref f)) (hk : PySem.W.keepIn Xc.K (.ref f) = true) (hb : KwB Xc.K fd ps) (hx : ∀ σ, PassesAt cx Xc σ (E σ))
    (ha : PK Xc kws t) (hall : (backToKw pos (keywordEach kws Xc.env)).all (·.1.isSome) = true := by rfl) (hks : (backToKw pos (keywordEach kws Xc.env)).filterMap (·.1) = ps := by rfl)
    (hdb : (x == ("__debug__" : Str)) = false := by decide) (hpl : ((backTo pos (starEach [] Xc.env)).any (·.1) || (backToKw pos (keywordEach kws Xc.env)).any (·.1.isNone)) = false := by rfl) :
    PE Xc (.Call (.Name x p) [] kws pos) (tCallD sp [] E t) := ⟨fun pins s σ H Q I h => by
  refine wpAny_Call_Name_kw (ld_glob I hg hm ?_ hdb)
  refine PySem.W.callWith_KW0 (h₀ := Xc.base) I.ok.mod.kin hk hall (thn (ha.run pos pins s σ H _ I h) ?_) hpl
  rintro ws s2 ⟨zs, H2, I2, rz, q2⟩
  rw [List.append_nil] at q2
  refine ⟨I2.kIn, ?_⟩
  rw [hks]
  have n : ws.length = ps.length := rz.length.symm.trans (F.len _ _ _ _ q2)
  refine wpAny_call (codeAny_mono (F.go Xc.A Xc.stack s2 H2 ⟨[], ps.zip ws⟩ ws zs Q (E σ) hr hq I2.env0 (hb.to s2 ws I2.kIn n) rz q2) fun z s' hz => ?_)
  match z, hz with
  | .error er, hz => exact hx σ pins H2 s2 er s' I2 hz
  | .ok (.ret u), hz => exact I2.after hz
  | .ok .next, hz => exact hz.elim
  | .ok .brk, hz => exact hz.elim
  | .ok .cont, hz => exact hz.elim⟩
/-! ### repr -/
def rRepr (K : PySem.W.Frag) : List V → Hp → VK → Prop := fun xs H Q => (∃ v d, xs = [v] ∧ Dp K H v d ∧ d.showable = true ∧ d.hasDict = false ∧ d.depth ≤ 40 ∧ d.shown.length ≤ sizeLine ∧ Q (.str d.shown) H)
  ∨ ∃ (a : Addr) (kvs : List (Str × Str)), xs = [.ref a] ∧ H a = some (.dK (kvs.map fun p => (.inr p.1, .str p.2))) ∧ (PyData.dict (kvs.map fun p => (.str p.1, .str p.2))).shown.length ≤ sizeLine ∧ Q (.str (PyData.dict (kvs.map fun p => (.str p.1, .str p.2))).shown) H
theorem kv_reads {prog : Program} {w : World} {h : Heap} : ∀ {kvs : List (Str × Str)} {rs : List (Key × Value)} {es : List DictEntry}, KV (kvs.map fun p => ((.inr p.1 : Key), V.str p.2)) rs → Pairs (mixKind prog w) es rs →
    ReadsAll h (es.map (·.key)) (kvs.map fun p => PyData.str p.1) [] ∧ ReadsAll h (es.map (·.val)) (kvs.map fun p => PyData.str p.2) []
  | [], _, _, r, q => by cases r; cases q; exact ⟨.nil, .nil⟩
  | p :: kvs, _, _, r, q => by
    cases r with
    | cons r1 r2 =>
      cases q with
      | cons q1 q2 q3 =>
        obtain ⟨i1, i2⟩ := kv_reads r2 q3
        obtain ⟨e1, tk, e2⟩ := r1
        rw [← e1] at q1
        have q1' : keyIs (.inr p.1) _ = true := q1
        rcases keyIs_shape q1' with ⟨i, t, z, _⟩ | ⟨y, t, z, ez⟩
        · cases z
        · cases z
          refine ⟨?_, ?_⟩
          · rw [List.map_cons, List.map_cons, ez]; exact ReadsAll.cons (as := []) (.str _ _) i1
          · rw [List.map_cons, List.map_cons, q2, e2]; exact ReadsAll.cons (as := []) (.str _ _) i2
theorem shownL_le : ∀ (kvs : List (Str × Str)), (PyData.dict (kvs.map fun p => (PyData.str p.1, PyData.str p.2))).showable = true := fun kvs => by
  show PyData.showableKv _ = true
  induction kvs with
  | nil => rfl
  | cons p kvs ih => show (true && true && PyData.showableKv _) = true; rw [ih]; rfl
theorem depthL_le : ∀ (kvs : List (Str × Str)), PyData.depthKv (kvs.map fun p => (PyData.str p.1, PyData.str p.2)) ≤ 1 := fun kvs => by
  induction kvs with
  | nil => simp [PyData.depthKv]
  | cons p kvs ih => simp only [List.map_cons, PyData.depthKv, PyData.depth]; omega
theorem call_repr (hq : Quiet Xc.A) (hu : Xc.A.units + 64 < cLine) : CallR Xc (.builtin "repr") (rRepr Xc.K) := by
  intro pins s σ H xs us Q I r h
  rcases h with ⟨v, d, rfl, hd, hs, hn, dp, hl, q⟩ | ⟨a, kvs, rfl, hH, hl, q⟩
  · cases r with
    | cons r1 rr =>
      cases rr
      obtain ⟨as, rd⟩ := Dp.reads I d v _ hd r1
      have fin : ∀ (h' : Heap) (u tk : Nat), (∀ b o, s.heap.get? b = some o → h'.get? b = some o) → EP Xc pins σ Q (.str d.shown u) { s with heap := h', toks := tk } := fun h' u tk hk => ⟨.str d.shown, H, I.kept (t' := tk) hk, ⟨u, rfl⟩, q⟩
      have fin1 : ∀ u tk, EP Xc pins σ Q (.str d.shown u) { s with toks := tk } := fun u tk => fin s.heap u tk fun _ _ e => e
      cases rd with
      | none => exact PySem.P.repr_of_none (fin1 _ _)
      | bool b => exact PySem.P.repr_of_bool (fin1 _ _)
      | int i t => exact PySem.P.repr_of_int (by simpa [PyData.showable] using hs) (fin1 _ _)
      | str x t => exact PySem.P.repr_of_str (fin1 _ _) hl
      | list h1 h2 h3 h4 => exact repr_of_reads' (.list h1 h2 h3 h4) hs (PyData.noDict_hsm hn) hq.g (by omega) (fun _ _ e => e) fin hl
      | tuple h1 h2 h3 h4 => exact repr_of_reads' (.tuple h1 h2 h3 h4) hs (PyData.noDict_hsm hn) hq.g (by omega) (fun _ _ e => e) fin hl
      | dict h1 h2 h3 h4 h5 => simp [PyData.hasDict] at hn
  · cases r with
    | cons r1 rr =>
      cases rr; cases r1
      obtain ⟨_, hsys, vs, hkv, o, es, ep, h1, h2, h3, _, h5, _⟩ := dk_of I.hok hH
      obtain ⟨q1, q2⟩ := kv_reads (h := s.heap) hkv h5
      have rd : Reads s.heap (.ref a) (.dict (kvs.map fun p => (PyData.str p.1, PyData.str p.2))) (a :: [] ++ []) := by
        refine .dict h1 h2.1 h3 ?_ ?_
        · rw [List.map_map]; exact q1
        · rw [List.map_map]; exact q2
      refine repr_of_reads' rd (shownL_le kvs) (fun _ => ?_) hq.g ?_ (fun _ _ e => e) (fun h' u tk hk => ⟨.str _, H, I.kept (t' := tk) hk, ⟨u, rfl⟩, q⟩) hl
      · simp only [List.append_nil, List.mem_singleton]
        intro z
        rw [← z] at hsys
        simp at hsys
      · have := depthL_le kvs
        simp only [PyData.depth]
        omega
end
end DL
namespace DL
open PySem PySem.Spec PyProof.Rows L2
section
variable {K : PySem.W.Frag} {ms : Ms} {P : Dat → Ms → Prop} {R : WX} {e : Ev} {X : XP} {ta ti te tk tv : TE} {tA : TA} {O : Out}
/-- a datum, or a list that may change, as plain data -/
def PyV (ms : Ms) (d : Dat) (p : PyData) : Prop := PyD d p ∨ ∃ k xs ys, d = .cell k ∧ ms[k]? = some (.lst xs) ∧ PyDL xs ys ∧ p = .list ys
theorem PyV.dp {W : Wd} {G H : Hp} {v : V} {d : Dat} {p : PyData} (g : Good K W G H ms) (h : PyV ms d p) (r : Rep K W v d) : Dp K H v p := by
  rcases h with h | ⟨k, xs, ys, rfl, hm, h, rfl⟩
  · exact dp_of g.fz h v r
  · cases r with
    | cell e =>
      obtain ⟨vs, e1, r1⟩ := (show MoOk K W H _ (.lst xs) from g.cl _ _ _ e hm)
      exact .lst (SqL.of e1) (dpl_of g.fz h _ r1)
/-- what repr can be asked of -/
structure Shows (p : PyData) : Prop where
  s : p.showable = true
  n : p.hasDict = false
  d : p.depth ≤ 40
  l : p.shown.length ≤ 1000000
theorem dr_repr {d : Dat} {p : PyData} (h : PyV ms d p) (s : Shows p) (q : P (.str p.shown) ms) : DR K (rRepr K) [d] ms P := fun W G H vs Q g r k => by
  cases r with
  | cons r1 rr =>
    cases rr
    exact .inl ⟨_, p, rfl, h.dp g r1, s.s, s.n, s.d, size_of s.l, k W _ _ H ms (Le.refl W) g (.str _) q⟩
def dctS (kvs : List (Str × Str)) : Dat := .dct (kvs.map fun p => (.inr p.1, .str p.2))
theorem repK_str {W : Wd} : ∀ {vs : List (Key × V)} {kvs : List (Str × Str)}, RepK K W vs (kvs.map fun p => ((.inr p.1 : Key), Dat.str p.2)) → vs = kvs.map fun p => ((.inr p.1 : Key), V.str p.2)
  | _, [], h => by cases h; rfl
  | _, p :: kvs, h => by
    cases h with
    | cons a b => cases a; rw [repK_str b]; rfl
def shownS (kvs : List (Str × Str)) : Str := (PyData.dict (kvs.map fun p => (.str p.1, .str p.2))).shown
theorem dr_reprD {kvs : List (Str × Str)} (hl : (shownS kvs).length ≤ 1000000) (q : P (.str (shownS kvs)) ms) : DR K (rRepr K) [dctS kvs] ms P := fun W G H vs Q g r k => by
  cases r with
  | cons r1 rr =>
    cases rr
    cases r1 with
    | dct e r2 =>
      rw [repK_str r2] at e
      exact .inr ⟨_, kvs, rfl, g.fz _ _ e, size_of hl, k W _ _ H ms (Le.refl W) g (.str _) q⟩
/-! ### {}, {k: v} -/
theorem de_dnew (q : P (.dct []) ms) : DE K R tDNewK e ms P X := fun W G σ H Q g s k _ p hp => by
  obtain ⟨g2, l2⟩ := g.laid (o := .dK []) hp
  exact k _ _ _ _ _ l2 g2 (.dct upd_same .nil) q
theorem de_disp1 (h : DE K R tk e ms (fun a m => ∃ z, a = .str z ∧ DE K R tv e m (fun b m2 => P (.dct [(.inr z, b)]) m2) X) X) : DE K R (tDisp [(tk, tv)]) e ms P X := fun W G σ H Q g s k x p hp => by
  have g1 := g.hold (o := .dK []) hp
  have gp : G p = none := g.gd.free hp
  refine h W (upd G p (.dK [])) σ (upd H p (.dK [])) _ g1 s (fun W1 v d H1 m1 l1 g2 r1 ⟨z, hz, h1⟩ => ?_) ?_
  · subst hz
    cases r1
    refine h1 W1 _ σ H1 _ g2 (s.mono l1) (fun W2 u d H2 m2 l2 g3 r2 q => ?_) ?_
    · refine ⟨g3.gd p _ upd_same, [(.inr z, u)], rfl, Nat.le_add_left 1 14, ?_⟩
      have g4 := g3.held (.dK [(.inr z, u)])
      obtain ⟨g5, l5⟩ := g4.frozen gp
      exact k _ _ _ _ _ (l1.trans (l2.trans l5)) g5 (.dct upd_same (.cons (Rep.mono l5 _ _ r2) .nil)) q
    · intro W' C dd fs ds H' ms' l' g' f r xx
      exact x W' C dd fs ds H' ms' (l1.trans l') (g'.weakG (same_new gp)) f r xx
  · intro W' C dd fs ds H' ms' l' g' f r xx
    exact x W' C dd fs ds H' ms' l' (g'.weakG (same_new gp)) f r xx
/-! ### lists that change -/
theorem dr_listC {x : Dat} {xs : List Dat} (s : SeqV ms x xs) (q : P (.cell ms.length) (ms ++ [.lst xs])) :
    DR K (fun vs H Q => ∃ p ys, vs = [V.ref p] ∧ (SqL K H p ys ∨ SqT K H p ys) ∧ ∀ l, H l = none → Q (.ref l) (upd H l (.lst ys))) [x] ms P := fun W G H vs Q g r k => by
  cases r with
  | cons r1 rr =>
    cases rr
    obtain ⟨a, us, rfl, hq, rl⟩ := seq_rep g r1 s
    refine ⟨a, us, rfl, hq, fun l hl => ?_⟩
    have l2 : Le W ⟨W.ι ++ [l], W.F⟩ := ⟨List.prefix_append _ _, Same.refl _⟩
    obtain ⟨g2, _⟩ := g.newC (p := l) (o := .lst us) hl (m := .lst xs) ⟨us, upd_same, RepL.mono l2 _ _ rl⟩
    exact k _ _ _ _ _ l2 g2 (.cell (by show (W.ι ++ [l])[ms.length]? = some l; rw [← g.ln]; simp)) q
theorem tyD_cell {k : Nat} {xs : List Dat} (h : ms[k]? = some (.lst xs)) : TyD K "list" (.cell k) ms := fun W G H v g r => by
  cases r with
  | cell e =>
    obtain ⟨vs, e1, _⟩ := (show MoOk K W H _ (.lst xs) from g.cl _ _ _ e h)
    exact .inl ⟨rfl, vs, SqL.of e1⟩
theorem dr_append {k : Nat} {xs : List Dat} {y : Dat} (h : ms[k]? = some (.lst xs)) (hl : xs.length < 1000000) (q : P .non (ms.set k (.lst (xs ++ [y])))) :
    DR K (fun vs => match vs with | v :: ws => rAppend v ws | [] => fun _ _ => False) [.cell k, y] ms P := fun W G H vs Q g r kk => by
  cases r with
  | cons r1 rr => cases rr with
    | cons r2 rr =>
      cases rr
      cases r1 with
      | cell e =>
        obtain ⟨us, e1, rl⟩ := (show MoOk K W H _ (.lst xs) from g.cl _ _ _ e h)
        refine ⟨_, us, _, rfl, rfl, e1, by rw [rl.length]; exact Nat.lt_of_lt_of_le hl (by decide), ?_⟩
        exact kk W _ _ _ _ (Le.refl W) (g.setC e (o := .lst (us ++ [_])) (m := .lst (xs ++ [y])) ⟨_, upd_same, RepL.append rl r2⟩) .non q
/-- o[i] = d of a list that may change -/
theorem repL_set {W : Wd} : ∀ {vs : List V} {ds : List Dat}, RepL K W vs ds → ∀ {v : V} {d : Dat}, Rep K W v d → ∀ (i : Nat), RepL K W (vs.set i v) (ds.set i d)
  | _, [], h, v, d, r, i => by cases h; exact .nil
  | _, _ :: _, h, v, d, r, 0 => by cases h with | cons a b => exact .cons r b
  | _, _ :: _, h, v, d, r, i + 1 => by cases h with | cons a b => exact .cons a (repL_set b r i)
/-- o[i] = d, the list's place known -/
def SubTo (ms : Ms) (k : Nat) (i d : Dat) (Q : Ms → Prop) : Prop := ∃ z j xs, i = .int z ∧ ms[k]? = some (.lst xs) ∧ ixN xs.length z = some j ∧ Q (ms.set k (.lst (xs.set j d)))
theorem sub_to {k : Nat} {xs : List Dat} {z : Int} {j : Nat} {d : Dat} {Q : Ms → Prop} (hk : ms[k]? = some (.lst xs)) (hj : ixN xs.length z = some j) (q : Q (ms.set k (.lst (xs.set j d)))) : SubTo ms k (.int z) d Q := ⟨z, j, xs, rfl, hk, hj, q⟩
theorem dg_sub {d : Dat} {vs : List Nat} {PE : Ev → Ms → Prop} (h : DE K (fun _ _ _ _ => False) ta e ms (fun o m => ∃ k, o = .cell k ∧ DE K (fun _ _ _ _ => False) ti e m (fun i m2 => SubTo m2 k i d (PE e)) (fun _ _ _ => False)) (fun _ _ _ => False)) :
    DG K (gSub ta ti rSetL) d e ms vs PE := fun W G σ H v Q g s r k => by
  refine h W G σ H _ g s (fun W1 o do' H1 m1 l1 g1 r1 ⟨kk, hk, h1⟩ => ?_) (fun _ _ _ _ _ _ _ _ _ _ _ z => z.elim)
  subst hk
  refine h1 W1 G σ H1 _ g1 (s.mono l1) (fun W2 i di H2 m2 l2 g2 r2 ⟨z, j, xs, hz, hm, hj, q⟩ => ?_) (fun _ _ _ _ _ _ _ _ _ _ _ z => z.elim)
  subst hz
  cases r2
  have rc := Rep.mono l2 _ _ r1
  cases rc with
  | cell e2 =>
    obtain ⟨us, e3, rl⟩ := (show MoOk K W2 H2 _ (.lst xs) from g2.cl _ _ _ e2 hm)
    refine ⟨_, us, z, j, rfl, rfl, e3, by rw [rl.length]; exact hj, ?_⟩
    refine k W2 σ e _ _ (l1.trans l2) (g2.setC e2 (o := .lst (us.set j v)) (m := .lst (xs.set j d)) ⟨_, upd_same, repL_set rl (Rep.mono (l1.trans l2) _ _ r) j⟩) (s.mono (l1.trans l2)) ⟨rfl, fun _ _ => rfl⟩ q
end
end DL
namespace DL
open PySem PySem.Spec PyProof.Rows L2
/-! ### small texts of plain signs -/
structure Sm (n : Nat) (z : Str) : Prop where
  len : z.length ≤ n
  sig : ∀ c ∈ z.cps.toList, c < 128
theorem strLen (z : Str) : z.length = z.cps.toList.length := by simp [Str.length]
theorem Sm.mono {n m : Nat} {z : Str} (h : Sm n z) (l : n ≤ m) : Sm m z := ⟨Nat.le_trans h.len l, h.sig⟩
theorem cps_app (a b : Str) : (a ++ b).cps.toList = a.cps.toList ++ b.cps.toList := TL.tl_append a b
theorem Sm.app {n m : Nat} {a b : Str} (h : Sm n a) (h' : Sm m b) : Sm (n + m) (a ++ b) := ⟨by
  rw [strLen, cps_app, List.length_append, ← strLen, ← strLen]; exact Nat.add_le_add h.len h'.len, fun c hc => by
  rw [cps_app] at hc
  rcases List.mem_append.mp hc with z | z
  · exact h.sig c z
  · exact h'.sig c z⟩
theorem Sm.cut {n : Nat} {a : Str} (h : Sm n a) (lo hi : Option Int) : Sm n (cutS a lo hi) := ⟨Nat.le_trans (cutS_length a lo hi) h.len, fun c hc => by
  unfold cutS at hc
  exact h.sig c (List.mem_of_mem_drop (List.mem_of_mem_take (by simpa using hc)))⟩
theorem Sm.lit {n : Nat} {z : Str} (h : (decide (z.length ≤ n) && z.cps.toList.all fun c => decide (c < 128)) = true) : Sm n z := by
  simp only [Bool.and_eq_true, decide_eq_true_eq, List.all_eq_true] at h
  exact ⟨h.1, fun c hc => by simpa using h.2 c hc⟩
theorem joinL_nil : ∀ (ls : List (List Nat)), TL.joinL [] ls = ls.flatten
  | [] => rfl
  | [a] => by simp [TL.joinL]
  | a :: b :: r => by rw [TL.joinL, joinL_nil (b :: r)]; simp
theorem join_cps {y : Str} (hy : y.cps.toList = []) (ls : List Str) : (Txt.join y ls).cps.toList = (ls.map fun z => z.cps.toList).flatten := by
  rw [TL.join_eq]
  have := TL.tl_join y ls
  rw [show TL.tl y = [] from hy, joinL_nil] at this
  exact this
theorem Sm.join {y : Str} (hy : y.cps.toList = []) (cs : List Nat) (h : ∀ c ∈ cs, c < 128) : Sm cs.length (Txt.join y (cs.map sign1)) := by
  have e : (Txt.join y (cs.map sign1)).cps.toList = cs := by
    rw [join_cps hy, List.map_map]
    induction cs with
    | nil => rfl
    | cons c cs ih =>
      rw [List.map_cons, List.flatten_cons, ih (fun d hd => h d (List.mem_cons_of_mem _ hd))]
      rfl
  exact ⟨by rw [strLen, e]; exact Nat.le_refl _, by rw [e]; exact h⟩
theorem Sm.nil : Sm 0 Str.empty := Sm.lit (by decide +kernel)
theorem Sm.sign {c : Nat} (h : c < 128) : Sm 1 (sign1 c) := ⟨Nat.le_refl _, fun d hd => by
  cases List.mem_singleton.mp (show d ∈ [c] from hd)
  exact h⟩
section
variable {K : PySem.W.Frag} {ms : Ms} {P : Dat → Ms → Prop}
theorem d2_addSm {a b : Str} {n m : Nat} (h : Sm n a) (h' : Sm m b) (hl : n + m ≤ 1000000) (q : Sm (n + m) (a ++ b) → P (.str (a ++ b)) ms) : D2 K rAddA (.str a) (.str b) ms P :=
  d2_addS (Nat.le_trans (Nat.add_le_add h.len h'.len) hl) (q (h.app h'))
theorem dsl_Sm {z : Str} {n : Nat} {lo hi : Option Int} (h : Sm n z) (hn : n ≤ 1000000) (q : Sm n (cutS z lo hi) → P (.str (cutS z lo hi)) ms) : DSl K (.str z) lo hi ms P := dsl_str (Nat.le_trans h.len hn) (q (h.cut lo hi))
theorem atI_map {α β : Type} (f : α → β) {l : List α} {k : Int} (h0 : 0 ≤ k) (h1 : k < l.length) : ∃ a ∈ l, atI (l.map f) k = some (f a) := by
  obtain ⟨n, rfl⟩ := Int.eq_ofNat_of_zero_le h0
  have hn : n < l.length := by omega
  refine ⟨l[n], List.getElem_mem hn, ?_⟩
  unfold atI ixN
  simp [hn]
theorem d2_ixM {α : Type} {f : α → Dat} {x : Dat} {vs : List α} {i : Int} (s : SeqV ms x (vs.map f)) (h0 : 0 ≤ i) (h1 : i < vs.length) (q : ∀ v ∈ vs, P (f v) ms) : D2 K (rIx K) x (.int i) ms P := by
  obtain ⟨a, ha, e⟩ := atI_map f h0 h1
  exact d2_ix s e (q a ha)
end
/-! ### the box of numbers that a law draws from -/
structure BoxOk (n : Nat) (xs : List Dat) : Prop where
  is : ∃ (a m c : Int) (b : Bool), xs = [.int a, .bl b, .int m, .int c] ∧ 0 ≤ a ∧ 0 ≤ m ∧ m < 2147483629 ∧ 0 ≤ c ∧ c ≤ n
theorem BoxOk.mono {n m : Nat} {xs : List Dat} (h : BoxOk n xs) (l : n ≤ m) : BoxOk m xs := by
  obtain ⟨a, m', c, b, e, h1, h2, h3, h4, h5⟩ := h.is
  exact ⟨a, m', c, b, e, h1, h2, h3, h4, by omega⟩
theorem log_le {n : Nat} {b : Nat} (h : n ≤ b) : n.log2 ≤ b := Nat.le_trans (Nat.log2_le_self n) h
theorem log64 {n : Nat} (h : n < 18446744073709551616) : n.log2 < 64 := by
  by_cases hn : n = 0
  · subst hn; decide
  · exact (Nat.log2_lt hn).mpr (by show n < 2 ^ 64; exact h)
theorem mul_ok {i j : Int} (h : i.natAbs < 18446744073709551616) (h' : j.natAbs < 18446744073709551616) : i.natAbs.log2 + j.natAbs.log2 < 1000000 := by
  have := log64 h
  have := log64 h'
  omega
theorem div_ok {j : Int} (h0 : 0 < j) (h : j.natAbs < 18446744073709551616) : 0 < j ∧ j.natAbs.log2 < 9000 := ⟨h0, by have := log64 h; omega⟩
theorem pow_ok {i j : Int} (h0 : 0 ≤ j) (h1 : j ≤ 1000000) (h : i.natAbs < 18446744073709551616) : 0 ≤ j ∧ j ≤ 1000000 ∧ i.natAbs < 2 ^ 64 := ⟨h0, h1, h⟩
def sub3 (xs : List Dat) (v : Int) : List Dat := xs.set 3 (.int v)
theorem ms_self {ms : Ms} {k : Nat} {m : MO} (h : ms[k]? = some m) : ms.set k m = ms := by
  obtain ⟨l, e⟩ := List.getElem?_eq_some_iff.mp h
  rw [← e]
  exact List.set_getElem_self l
theorem atI_nat {α : Type} {l : List α} {n : Nat} (h : n < l.length) : atI l (n : Int) = some l[n] := by
  unfold atI ixN
  have h1 : (n : Int) < l.length := by omega
  rw [if_pos (by omega), if_pos h1]
  simp [h]
theorem set_same {ms : Ms} {k : Nat} {m : MO} (h : k < ms.length) : (ms.set k m)[k]? = some m := List.getElem?_set_self h
theorem ms_lt {ms : Ms} {k : Nat} {m : MO} (h : ms[k]? = some m) : k < ms.length := (List.getElem?_eq_some_iff.mp h).1
end DL
namespace DL
open PySem PySem.Spec PyProof.Rows L2
theorem strOk_of {z : Str} (h : ∀ c ∈ z.cps.toList, c < 128) : PyData.strOk z = true := by
  unfold PyData.strOk
  rw [← Array.all_toList, List.all_eq_true]
  intro c hc
  have := h c hc
  simp
  omega
section
variable {K : PySem.W.Frag} {ms : Ms} {P : Dat → Ms → Prop}
theorem pydl_str : ∀ (cs : List Str), PyDL (cs.map Dat.str) (cs.map PyData.str)
  | [] => .nil
  | c :: cs => .cons (.str c) (pydl_str cs)
theorem pydl_int : ∀ (cs : List Int), PyDL (cs.map Dat.int) (cs.map PyData.int)
  | [] => .nil
  | c :: cs => .cons (.int c) (pydl_int cs)
theorem lay_str : ∀ {cs : List Str}, (∀ z ∈ cs, ∀ c ∈ z.cps.toList, c < 128) → PyData.canLayAll0 (cs.map PyData.str) = true
  | [], _ => rfl
  | z :: cs, h => by
    show (PyData.strOk z && PyData.canLayAll0 _) = true
    rw [strOk_of (h z List.mem_cons_self), lay_str (fun z hz => h z (List.mem_cons_of_mem _ hz))]; rfl
theorem dep_str : ∀ (cs : List Str), PyData.depthAll (cs.map PyData.str) ≤ 1
  | [] => by simp [PyData.depthAll]
  | z :: cs => by have := dep_str cs; simp only [List.map_cons, PyData.depthAll, PyData.depth]; omega
theorem lay_int : ∀ (cs : List Int), PyData.canLayAll0 (cs.map PyData.int) = true
  | [] => rfl
  | z :: cs => by show (true && PyData.canLayAll0 _) = true; rw [lay_int cs]; rfl
theorem dep_int : ∀ (cs : List Int), PyData.depthAll (cs.map PyData.int) ≤ 1
  | [] => by simp [PyData.depthAll]
  | z :: cs => by have := dep_int cs; simp only [List.map_cons, PyData.depthAll, PyData.depth]; omega
theorem shaped_strs {cs : List Str} (h : ∀ z ∈ cs, ∀ c ∈ z.cps.toList, c < 128) : SeqAt.shaped (.list (cs.map PyData.str)) = true := by
  have := dep_str cs
  unfold SeqAt.shaped
  simp only [PyData.canLay0, lay_str h, PyData.depth, Bool.true_and, decide_eq_true_eq]
  exact decide_eq_true (by omega)
theorem shaped_ints (cs : List Int) : SeqAt.shaped (.list (cs.map PyData.int)) = true := by
  have := dep_int cs
  unfold SeqAt.shaped
  simp only [PyData.canLay0, lay_int cs, PyData.depth, Bool.true_and, decide_eq_true_eq]
  exact decide_eq_true (by omega)
theorem shaped_tups {cs : List Str} (h : ∀ z ∈ cs, ∀ c ∈ z.cps.toList, c < 128) : SeqAt.shaped (.tuple (cs.map PyData.str)) = true := by
  have := dep_str cs
  unfold SeqAt.shaped
  simp only [PyData.canLay0, lay_str h, PyData.depth, Bool.true_and, decide_eq_true_eq]
  exact decide_eq_true (by omega)
/-- a list of texts == [] -/
theorem d2_eqNilS {xs : List Dat} {cs : List Str} (e : xs = cs.map Dat.str) (h : ∀ z ∈ cs, ∀ c ∈ z.cps.toList, c < 128) (q : P (.bl cs.isEmpty) ms) : D2 K (rEqA K) (.lst xs) (.lst []) ms P := by
  subst e
  refine d2_eqD (.lst (pydl_str cs)) (.lst .nil) (shaped_strs h) (by decide +kernel) ?_
  have e : PyData.eqv (.list (cs.map PyData.str)) (.list []) = cs.isEmpty := by cases cs <;> simp [PyData.eqv, PyData.eqvAll]
  rw [e]; exact q
theorem d2_eqNilI {xs : List Dat} {cs : List Int} (e : xs = cs.map Dat.int) (q : P (.bl cs.isEmpty) ms) : D2 K (rEqA K) (.lst xs) (.lst []) ms P := by
  subst e
  refine d2_eqD (.lst (pydl_int cs)) (.lst .nil) (shaped_ints cs) (by decide +kernel) ?_
  have e : PyData.eqv (.list (cs.map PyData.int)) (.list []) = cs.isEmpty := by cases cs <;> simp [PyData.eqv, PyData.eqvAll]
  rw [e]; exact q
theorem eqvT (a b c d : Str) : PyData.eqv (.tuple [.str a, .str b]) (.tuple [.str c, .str d]) = (a == c && b == d) := by simp [PyData.eqv, PyData.eqvAll]
theorem d2_eqT {a b c d : Str} (h : ∀ z ∈ [a, b], ∀ c ∈ z.cps.toList, c < 128) (h' : ∀ z ∈ [c, d], ∀ c ∈ z.cps.toList, c < 128) (q : P (.bl (a == c && b == d)) ms) : D2 K (rEqA K) (.tup [.str a, .str b]) (.tup [.str c, .str d]) ms P := by
  refine d2_eqD (p := .tuple [.str a, .str b]) (p' := .tuple [.str c, .str d]) (.tup (pydl_str [a, b])) (.tup (pydl_str [c, d])) (shaped_tups h) (shaped_tups h') ?_
  rw [eqvT]; exact q
theorem d2_neT {a b c d : Str} (h : ∀ z ∈ [a, b], ∀ c ∈ z.cps.toList, c < 128) (h' : ∀ z ∈ [c, d], ∀ c ∈ z.cps.toList, c < 128) (q : P (.bl (!(a == c && b == d))) ms) : D2 K (rNeA K) (.tup [.str a, .str b]) (.tup [.str c, .str d]) ms P := by
  refine d2_neD (p := .tuple [.str a, .str b]) (p' := .tuple [.str c, .str d]) (.tup (pydl_str [a, b])) (.tup (pydl_str [c, d])) (shaped_tups h) (shaped_tups h') ?_
  rw [eqvT]; exact q
end
theorem mtA_append {X : Cx} : MtR X "list.append" rAppend := mt_append
theorem pe_bmK {X : Cx} {K : PySem.W.Frag} {T id : String} {name : Str} {r : V → List V → Hp → VK → Prop} {o e : Expr} {es : List Expr} {to : TE} {t : TA} {apos cpos : Pos} (hK : X.K = K) (pa : PlainAttrs T) (slot : Slot T name id) (hty : typeOf (.builtin id) = pure (.type "method_descriptor")) (hm : MtR X id r) (ho : PE X o to) (ha : PA X (e :: es) t)
    (hbase : attributeBase o name X.env (eval o X.env) = eval o X.env := by rfl)
    (hfew : ((backTo cpos (starEach (e :: es) X.env)).all (fun x => !x.1) && (backToKw cpos (keywordEach [] X.env)).all (fun x => x.1.isSome) && decide ((e :: es).length + ([] : List Keyword).length + (if ([] : List Keyword).isEmpty then 0 else 1) < 30)) = true := by rfl)
    (hline : (apos.endLine == cpos.line) = true := by rfl) (hs : starEach (e :: es) X.env = (false, eval e X.env) :: starEach es X.env := by rfl) (hplain : (backTo cpos (starEach es X.env)).any (·.1) = false := by rfl) :
    PE X (.Call (.Attribute o name apos) (e :: es) [] cpos) (tBM K T r to t) := by
  subst hK
  exact pe_bm pa slot hty hm ho ha hbase hfew hline hs hplain
/-! ### except suites -/
def tTry (K : PySem.W.Frag) (c : Value) (i : Nat) (tb : WX → TS) (ts : Addr → Value → Option Addr → TS) (R : WX) : TS := fun D σ H => tb (wAs K c i ts R D) D σ H
theorem ps_tryK {X : Cx} {K : PySem.W.Frag} {x n : Str} {c : Value} {i : Nat} {body suite : List Stmt} {b₀ : Stmt} {np pos pos' : Pos} {tb : WX → TS} {ts : Addr → Value → Option Addr → TS} {Wout : WX} (hK : X.K = K)
    (hs : X.stack = X.env :: X.outer) (hf : X.env.frame = some X.env.locals) (hN : X.N.Nodup) (hi : X.N[i]? = some n) (hln : X.env.kindOf n = some .local) (hc : Names X x c) (tk : L2N.Takes X Wout)
    (hb : ∀ (W : WX) (pn : List (Addr × Obj)) (xe : Value → Shared → Prop), L2N.Takes (X.tr pn xe) W → PassesOwn (model X.prog X.w) X.A X.env xe → PSs (X.tr pn xe) body (tb W))
    (hsu : ∀ (a : Addr) (oe : Obj) (cls : Value) (d : Option Addr) (pn : List (Addr × Obj)), L2N.Zn cls d oe → (∃ vs, oe.data = .fields vs) → PSs (X.suite a ((a, oe) :: pn)) (b₀ :: suite) (ts a cls d)) :
    PS X (.Try body [.ExceptHandler (some (.Name x np)) (some n) (b₀ :: suite) pos'] [] [] pos) (tTry K c i tb ts Wout) := by
  subst hK
  exact L2N.ps_try_as hs hf hN hi hln hc tk hb hsu
theorem ds_tryK {K : PySem.W.Frag} {R : WX} {e : Ev} {ms : Ms} {O : Out} {c : Value} {i : Nat} {tb : WX → TS} {ts : Addr → Value → Option Addr → TS}
    (h : ∀ R', DS K R' (tb R') e ms { O with ex := fun D ds e' m' => ∃ b, PySem.W.exmOne K (.ref D) c = some b ∧
      (b = true → ∀ a dd, DS K (fun _ _ _ _ => False) (ts a (.ref D) (some dd)) (e'.set i (some (.hot a dd D ds))) m' { nx := fun e2 m2 => O.nx (e2.set i none) m2, rt := O.rt, bk := fun e2 m2 => O.bk (e2.set i none) m2, ct := fun e2 m2 => O.ct (e2.set i none) m2 }) ∧
      (b = false → O.ex D ds e' m') }) : DS K R (tTry K c i tb ts R) e ms O := ds_try h
section
variable {X : Cx} {a : Addr} {oe : Obj} {cls : Value} {d : Option Addr} {pn : List (Addr × Obj)}
theorem hotSuite (hz : L2N.Zn cls d oe) (hf : ∃ vs, oe.data = .fields vs) : L2H.HotC (X.suite a ((a, oe) :: pn)) := by
  obtain ⟨vs, e⟩ := hf
  exact ⟨(a, oe), ⟨rfl, vs, e, hz.2.2 vs e⟩, List.mem_cons_self⟩
theorem roomS {k : Nat} {h : Option Value} (r : Room k X.A) : L2H.RoomH k (X.A.mark h) := ⟨r.dp, r.un⟩
end
/-! ### texts: the beginning -/
theorem starts_is (z y : Str) : Txt.startswith z y = decide ((cutS z none (some (y.length : Int))).cps.toList = y.cps.toList) := by
  unfold Txt.startswith
  have e : (cutS z none (some (y.length : Int))).cps.toList = z.cps.toList.take y.length := by
    unfold cutS
    rw [HT.sIx_none, HT.sIx_nat]
    simp only [List.drop_zero, Nat.sub_zero, Nat.min_def]
    split
    · rfl
    · rw [List.take_of_length_le (by rw [← strLen]; exact Nat.le_refl _), List.take_of_length_le (by rw [← strLen]; omega)]
  rw [e, StrLaws.subAt_eq]
  by_cases h : z.cps.toList.take y.length = y.cps.toList
  · have : y.length ≤ z.length := by
      have := congrArg List.length h
      rw [List.length_take, ← strLen, ← strLen] at this
      omega
    rw [decide_eq_true h, decide_eq_true (by omega)]
    simp [h]
  · rw [decide_eq_false h]
    simp [h]
theorem str_ext {a b : Str} (h : a.cps.toList = b.cps.toList) : a = b := TL.ext_tl h
theorem str_eq {a b : Str} : a = b ↔ a.cps.toList = b.cps.toList := ⟨fun e => by rw [e], str_ext⟩
theorem cut_from (z : Str) (k : Nat) : (cutS z (some (k : Int)) none).cps.toList = z.cps.toList.drop k := by
  unfold cutS
  rw [HT.sIx_nat, HT.sIx_none]
  simp only [Nat.min_def]
  split
  · rename_i h
    rw [List.take_of_length_le]
    rw [List.length_drop, ← strLen]
    omega
  · rename_i h
    rw [List.drop_eq_nil_of_le (by rw [← strLen]; exact Nat.le_refl _), List.drop_eq_nil_of_le (by rw [← strLen]; omega)]
    simp
theorem cut_to (z : Str) (k : Nat) : (cutS z none (some (k : Int))).cps.toList = z.cps.toList.take k := by
  unfold cutS
  rw [HT.sIx_none, HT.sIx_nat]
  simp only [List.drop_zero, Nat.sub_zero, Nat.min_def]
  split
  · rfl
  · rw [List.take_of_length_le (by rw [← strLen]; exact Nat.le_refl _), List.take_of_length_le (by rw [← strLen]; omega)]
end DL
namespace DL
open PySem PySem.Spec PyProof.Rows L2
/-- plain data that repr shows in n signs at most, k deep -/
structure Cm (d : Dat) (n k : Nat) : Prop where
  ex : ∃ p, PyD d p ∧ p.showable = true ∧ p.hasDict = false ∧ p.depth ≤ k ∧ p.shown.length ≤ n
  ty : ∃ T, ∀ ms, tyOf ms d = some T
  so : StrOk d
structure CmL (ds : List Dat) (n k : Nat) : Prop where
  ex : ∃ ps, PyDL ds ps ∧ PyData.showableAll ps = true ∧ PyData.hasDictAll ps = false ∧ PyData.depthAll ps ≤ k ∧ ((PyData.shownAll ps).map (·.length)).sum + 2 * (PyData.shownAll ps).length ≤ n
  all : ∀ d ∈ ds, (∃ T, ∀ ms, tyOf ms d = some T) ∧ StrOk d
theorem Cm.mono {d : Dat} {n k m j : Nat} (h : Cm d n k) (l : n ≤ m) (l' : k ≤ j) : Cm d m j := by
  obtain ⟨⟨p, a, b, c, e, f⟩, t, s⟩ := h
  exact ⟨⟨p, a, b, c, Nat.le_trans e l', Nat.le_trans f l⟩, t, s⟩
theorem CmL.nil {k : Nat} : CmL [] 0 k := ⟨⟨[], .nil, rfl, rfl, Nat.zero_le _, Nat.le_refl _⟩, fun _ h => nomatch h⟩
theorem CmL.cons {d : Dat} {ds : List Dat} {n m k : Nat} (h : Cm d n k) (h' : CmL ds m k) : CmL (d :: ds) (n + m + 2) k := by
  obtain ⟨⟨p, a, b, c, e, f⟩, t, s⟩ := h
  obtain ⟨⟨ps, a', b', c', e', f'⟩, al⟩ := h'
  refine ⟨⟨p :: ps, .cons a a', ?_, ?_, ?_, ?_⟩, fun x hx => ?_⟩
  · show (p.showable && PyData.showableAll ps) = true
    rw [b, b']; rfl
  · show (p.hasDict || PyData.hasDictAll ps) = false
    rw [c, c']; rfl
  · show max p.depth (PyData.depthAll ps) ≤ k
    omega
  · show (List.map (fun x => x.length) (p.shown :: PyData.shownAll ps)).sum + 2 * (p.shown :: PyData.shownAll ps).length ≤ _
    rw [List.map_cons, List.sum_cons, List.length_cons]
    omega
  · rcases List.mem_cons.mp hx with z | z
    · subst z; exact ⟨t, s⟩
    · exact al x z
theorem CmL.tup {ds : List Dat} {n k : Nat} (h : CmL ds n k) : Cm (.tup ds) (n + 5) (k + 1) := by
  obtain ⟨⟨ps, a, b, c, e, f⟩, al⟩ := h
  refine ⟨⟨.tuple ps, .tup a, b, c, ?_, ?_⟩, ⟨"tuple", fun _ => rfl⟩, True.intro⟩
  · show PyData.depthAll ps + 1 ≤ k + 1; omega
  · show (tupleText (PyData.shownAll ps)).length ≤ _
    have := PySem.tupleText_len_le (PyData.shownAll ps)
    omega
theorem CmL.lst {ds : List Dat} {n k : Nat} (h : CmL ds n k) : Cm (.lst ds) (n + 5) (k + 1) := by
  obtain ⟨⟨ps, a, b, c, e, f⟩, al⟩ := h
  refine ⟨⟨.list ps, .lst a, b, c, ?_, ?_⟩, ⟨"list", fun _ => rfl⟩, True.intro⟩
  · show PyData.depthAll ps + 1 ≤ k + 1; omega
  · show (listText (PyData.shownAll ps)).length ≤ _
    have := PySem.listText_len_le (PyData.shownAll ps)
    omega
theorem CmL.snoc {d : Dat} {n k : Nat} (h : Cm d n k) : ∀ {ds : List Dat} {m : Nat}, CmL ds m k → CmL (ds ++ [d]) (n + m + 2) k := by
  intro ds m h'
  obtain ⟨⟨p, a, b, c, e, f⟩, t, s⟩ := h
  obtain ⟨⟨ps, a', b', c', e', f'⟩, al⟩ := h'
  have key : ∀ {ds : List Dat} {ps : List PyData}, PyDL ds ps → PyDL (ds ++ [d]) (ps ++ [p]) := by
    intro ds ps h
    induction ds generalizing ps with
    | nil => cases h; exact .cons a .nil
    | cons x xs ih => cases h with | cons h1 h2 => exact .cons h1 (ih h2)
  have s1 : ∀ ps : List PyData, PyData.showableAll (ps ++ [p]) = (PyData.showableAll ps && p.showable) := by
    intro ps; induction ps with
    | nil => simp [PyData.showableAll]
    | cons x xs ih => simp only [List.cons_append, PyData.showableAll, ih, Bool.and_assoc]
  have s2 : ∀ ps : List PyData, PyData.hasDictAll (ps ++ [p]) = (PyData.hasDictAll ps || p.hasDict) := by
    intro ps; induction ps with
    | nil => simp [PyData.hasDictAll]
    | cons x xs ih => simp only [List.cons_append, PyData.hasDictAll, ih, Bool.or_assoc]
  have s3 : ∀ ps : List PyData, PyData.depthAll (ps ++ [p]) = max (PyData.depthAll ps) p.depth := by
    intro ps; induction ps with
    | nil => simp [PyData.depthAll]
    | cons x xs ih => simp only [List.cons_append, PyData.depthAll, ih]; omega
  have s4 : ∀ ps : List PyData, PyData.shownAll (ps ++ [p]) = PyData.shownAll ps ++ [p.shown] := by
    intro ps; induction ps with
    | nil => simp [PyData.shownAll]
    | cons x xs ih => simp only [List.cons_append, PyData.shownAll, ih]
  refine ⟨⟨ps ++ [p], key a', by rw [s1, b, b']; rfl, by rw [s2, c, c']; rfl, by rw [s3]; omega, ?_⟩, fun x hx => ?_⟩
  · rw [s4, List.map_append, List.sum_append, List.length_append]
    simp only [List.map_cons, List.map_nil, List.sum_cons, List.sum_nil, List.length_cons, List.length_nil]
    omega
  · rcases List.mem_append.mp hx with z | z
    · exact al x z
    · cases List.mem_singleton.mp z; exact ⟨t, s⟩
theorem cm_str {z : Str} {m n k : Nat} (h : Sm m z) (hm : m ≤ 100000) (l : 10 * m + 2 ≤ n) : Cm (.str z) n k := by
  have := StrLaws.reprText_len z (fun c hc => Nat.lt_trans (h.sig c hc) (by decide))
  have := h.len
  exact ⟨⟨.str z, .str z, rfl, rfl, Nat.zero_le _, by show (reprText z).length ≤ n; omega⟩, ⟨"str", fun _ => rfl⟩, ⟨by omega, h.sig⟩⟩
theorem cm_non {n k : Nat} (h : 4 ≤ n) : Cm .non n k := ⟨⟨.none, .non, rfl, rfl, Nat.zero_le _, Nat.le_trans (by decide +kernel) h⟩, ⟨"NoneType", fun _ => rfl⟩, True.intro⟩
theorem cm_bl {b : Bool} {n k : Nat} (h : 5 ≤ n) : Cm (.bl b) n k := ⟨⟨.bool b, .bl b, rfl, rfl, Nat.zero_le _, by cases b <;> exact Nat.le_trans (by decide +kernel) h⟩, ⟨"bool", fun _ => rfl⟩, True.intro⟩
theorem cm_int {i : Int} {n k : Nat} (h : (decide (i.natAbs.log2 < 1920) && decide ((PyData.int i).shown.length ≤ n)) = true) : Cm (.int i) n k := by
  simp only [Bool.and_eq_true, decide_eq_true_eq] at h
  exact ⟨⟨.int i, .int i, by simp [PyData.showable, h.1], rfl, Nat.zero_le _, h.2⟩, ⟨"int", fun _ => rfl⟩, True.intro⟩
theorem Cm.v {K : PySem.W.Frag} {ms : Ms} {d : Dat} {n k : Nat} (h : Cm d n k) : VOk K ms d := by
  obtain ⟨T, t⟩ := h.ty
  exact .ty (t ms) h.so
theorem shownS_le {kvs : List (Str × Str)} {w a : Str} {n m : Nat} (e : kvs = [(a, w)]) (ha : Sm n a) (hw : Sm m w) : (shownS kvs).length ≤ 10 * (n + m) + 100 := by
  subst e
  have h1 := StrLaws.reprText_len a (fun c hc => Nat.lt_trans (ha.sig c hc) (by decide))
  have h2 := StrLaws.reprText_len w (fun c hc => Nat.lt_trans (hw.sig c hc) (by decide))
  have h3 := ha.len
  have h4 := hw.len
  have := PySem.dictText_len_le [reprText a ++ (": " : Str) ++ reprText w]
  have e : (shownS [(a, w)]).length = (dictText [reprText a ++ (": " : Str) ++ reprText w]).length := rfl
  rw [e]
  have e2 : ((": " : Str)).length = 2 := by decide +kernel
  simp only [List.map_cons, List.map_nil, List.sum_cons, List.sum_nil, List.length_cons, List.length_nil, PySem.Str.length_append, e2] at this
  omega
theorem itL_mem {xs : List Dat} {i : Nat} (h : i < xs.length) : itL xs i ∈ xs := by
  rw [itL_get (List.getElem?_eq_getElem h)]
  exact List.getElem_mem h
section
variable {K : PySem.W.Frag} {ms : Ms} {P : Dat → Ms → Prop}
theorem d1_neg {i : Int} (q : P (.int (-i)) ms) : D1 K (rU fun i => .int (-i)) (.int i) ms P := fun W G H v Q g r k => by
  cases r
  exact ⟨i, rfl, k W _ _ H ms (Le.refl W) g (.int _) q⟩
/-- a value of a kind known by its type: is it of a class that no built-in's value is of? -/
theorem dr_isiT {x : Dat} {T : String} {C : Addr} {b : Bool} (ht : ∀ ms, tyOf ms x = some T) (hb : PySem.W.kitOne K (.type T) (.ref C) = some b) (q : P (.bl b) ms) : DR K (rIsiX K) [x, .ref C] ms P := dr_isiC (ht ms) hb q
theorem dr_max {i j : Int} (q : P (.int (if j > i then j else i)) ms) : DR K (fun xs H Q => ∃ i j, xs = [.int i, .int j] ∧ Q (.int (if j > i then j else i)) H) [.int i, .int j] ms P := fun W G H vs Q g r k => by
  cases r with
  | cons r1 rr => cases rr with
    | cons r2 rr =>
      cases rr; cases r1; cases r2
      exact ⟨i, j, rfl, k W _ _ H ms (Le.refl W) g (.int _) q⟩
theorem dr_min {i j : Int} (q : P (.int (if j < i then j else i)) ms) : DR K (fun xs H Q => ∃ i j, xs = [.int i, .int j] ∧ Q (.int (if j < i then j else i)) H) [.int i, .int j] ms P := fun W G H vs Q g r k => by
  cases r with
  | cons r1 rr => cases rr with
    | cons r2 rr =>
      cases rr; cases r1; cases r2
      exact ⟨i, j, rfl, k W _ _ H ms (Le.refl W) g (.int _) q⟩
end
def AsLst (d : Dat) (Q : List Dat → Prop) : Prop := ∃ xs, (d = .lst xs ∨ d = .rol xs) ∧ Q xs
theorem as_lst {xs : List Dat} {Q : List Dat → Prop} (q : Q xs) : AsLst (.lst xs) Q := ⟨xs, .inl rfl, q⟩
theorem as_rol {xs : List Dat} {Q : List Dat → Prop} (q : Q xs) : AsLst (.rol xs) Q := ⟨xs, .inr rfl, q⟩
theorem di_lst {K : PySem.W.Frag} {ms : Ms} {R : WX} {e : Ev} {X : XP} {ta : TE} {PI : Nat → (Nat → Dat) → Ms → Prop} (h : DE K R ta e ms (fun d m => AsLst d (fun xs => PI xs.length (itL xs) m)) X) : DI K R (iList K ta) e ms PI X := di_list h
end DL
namespace DL
open PySem PySem.Spec PyProof.Rows L2
/-! ### the law's call, for promises over data -/
section
variable {P : Program} {w : World} {K : PySem.W.Frag} {mg mb : Str → Option Value} {k : Nat} {fa a : Addr} {fd : FuncData} {x : Str} {A : Pm} {s1 : Shared} {vs : List Value} {ns : List Int}
/-- what is tracked ahead of the call: the script, if it is no object of the module -/
def onlyScript (K : PySem.W.Frag) (a : Addr) (vs : List Value) (ns : List Int) : Hp := fun b => if b = a ∧ (K.lookup a).isNone = true then some (.frz { cls := .type "list", data := .seq vs.toArray } (.lst (ns.map V.int))) else none
theorem onlyScript_at {b : Addr} {u : HO} (h : onlyScript K a vs ns b = some u) : b = a ∧ K.lookup a = none ∧ u = .frz { cls := .type "list", data := .seq vs.toArray } (.lst (ns.map V.int)) := by
  unfold onlyScript at h
  by_cases hb : b = a ∧ (K.lookup a).isNone = true
  · rw [if_pos hb] at h
    cases h
    exact ⟨hb.1, by simpa using hb.2, rfl⟩
  · rw [if_neg hb] at h
    cases h
theorem callG (KX : K.In s1.heap) (hm : s1.heap.Ns mainGlobals mg) (hB : s1.heap.Ns builtinsNs mb) (hbb : ∀ x : Str, x ≠ "__name__" → mb x = bootBuiltins x) (lim : s1.heap.NoLimit) (hg : s1.gens = #[])
    (ho : s1.heap.get? a = some { cls := .type "list", data := .seq vs.toArray }) (hi : IntsAre vs ns) (hl : ns.length ≤ sizeLine) (hr : Room k callerA)
    (F : ∀ base : Heap, K.In base → base.Ns mainGlobals mg → FnG P w K mg base (L2N.CX P w) k fa fd [x] (spD K A)) (bind : ∀ (s : Shared) (u : Value), BindsTo s fd ⟨[u], []⟩ [(x, u)])
    (hA : A [.rol (ns.map Dat.int)] [] (fun d _ => d = .bl true) (fun _ _ _ => False)) :
    codeAny (model P w) callerA (.call (.ref fa) ⟨[.ref a], []⟩) (fun r s' => r = .ok (.ret (.bool true)) ∧ OldK s1.heap s'.heap ∧ s'.os = s1.os ∧ AllBare s'.gens) s1 := by
  have rv := vals_ints hi
  have hlen : vs.length = ns.length := by have := rv.length; simpa using this.symm
  generalize hH : onlyScript K a vs ns = H
  have at_ : ∀ {b : Addr} {u : HO}, H b = some u → b = a ∧ K.lookup a = none ∧ u = .frz { cls := .type "list", data := .seq vs.toArray } (.lst (ns.map V.int)) := fun {b u} e => onlyScript_at (by rw [hH]; exact e)
  have ok : HOk P w H s1.heap := fun b u e => by
    obtain ⟨rfl, _, rfl⟩ := at_ e
    exact ⟨ho, by rw [List.length_map]; exact hl, vs, _, rv, ho⟩
  have sq : SqL K H a (ns.map V.int) := by
    cases hk : K.lookup a with
    | none =>
      refine .inl (.inr ⟨{ cls := .type "list", data := .seq vs.toArray }, ?_⟩)
      rw [← hH]
      exact if_pos ⟨rfl, by rw [hk]; rfl⟩
    | some o =>
      have e := KX a o hk
      rw [ho] at e
      cases e
      exact .inr ⟨_, vs.toArray, _, hk, rfl, rfl, rfl, by rw [List.size_toArray, hlen]; exact hl, by simpa using rv⟩
  have free : ∀ {b : Addr} {o : Obj}, s1.heap.get? b = some o → (∀ its n, o.data ≠ .seq its n) → H b = none := fun {b o} e d => by
    cases q : H b with
    | none => rfl
    | some u =>
      obtain ⟨rfl, _⟩ := at_ q
      rw [ho] at e
      cases e
      exact absurd rfl (d _ _)
  have ns' : ∀ {b : Addr} {m : Str → Option Value}, s1.heap.Ns b m → (hidT s1.heap H).Ns b m := fun {b m} ⟨o, es, ep, e, d, r⟩ => ⟨o, es, ep, hidT_get e (free e fun its n z => by rw [d] at z; cases z), d, r⟩
  have kin : K.In (hidT s1.heap H) := fun b o e => hidT_get (KX b o e) (by
    cases q : H b with
    | none => rfl
    | some u =>
      obtain ⟨rfl, z, _⟩ := at_ q
      rw [z] at e
      cases e)
  have md : Mod K mg (hidT s1.heap H) := ⟨kin, ns' hm, ⟨mb, ns' hB, hbb⟩, lim.imp fun _ z => ⟨ns' z.1, z.2⟩⟩
  have e0 : Env0 P w K mg (hidT s1.heap H) callerA [] s1 H := ⟨rfl, md, fun b o e => of_hidT e, Nat.le_of_eq (hidT_size _ _), trivial, fun b hb => (List.not_mem_nil (a := b) hb).elim, ok, .of_eq hg⟩
  have rints : ∀ ns : List Int, RepL K ⟨[], H⟩ (ns.map V.int) (ns.map Dat.int) := fun ns => by
    induction ns with
    | nil => exact .nil
    | cons n ns ih => exact .cons (.int n) ih
  have gd : Good K ⟨[], H⟩ (fun _ => none) H [] := ⟨fun _ _ e => e, fun _ _ e => (nomatch e), rfl, List.nodup_nil, fun _ h => (nomatch h), fun _ h => (nomatch h), fun _ _ e => (nomatch e), fun k a m h => (by simp at h)⟩
  refine codeAny_mono ((F _ kin (ns' hm)).go callerA [] s1 H ⟨[.ref a], []⟩ [.ref a] [.ref a] (fun v _ => v = .bl true) (fun _ _ _ => False) hr ⟨rfl⟩ e0 (bind s1 (.ref a)) (.cons rfl .nil)
    ⟨⟨[], H⟩, fun _ => none, [], [.rol (ns.map Dat.int)], fun d _ => d = .bl true, fun _ _ _ => False, gd, .cons (.rol sq (rints ns)) .nil, hA, fun W' v d H' ms' _ _ r e => by subst e; cases r; rfl, fun _ _ _ _ _ _ _ _ _ _ _ z => z⟩) fun r s' h => ?_
  match r, h with
  | .error e, h =>
    obtain ⟨_, _, _, _, _, _, _, _, _, _, _, _, z⟩ := h
    exact z.elim
  | .ok .next, h => exact h.elim
  | .ok .brk, h => exact h.elim
  | .ok .cont, h => exact h.elim
  | .ok (.ret u), h =>
    obtain ⟨v, H', os, bare, un, ok', r', rfl⟩ := h
    obtain rfl : u = Value.bool true := r'
    refine ⟨rfl, OldK.of_keep fun b o e => ?_, os, bare⟩
    cases q : H b with
    | none => exact un.keep b o e q (fun z => (List.not_mem_nil (a := b) z).elim) (by simp)
    | some u =>
      obtain ⟨rfl, _, rfl⟩ := at_ q
      obtain ⟨e1, _⟩ := ok b _ q
      obtain ⟨e2, _⟩ := ok' b _ (un.frzs b _ _ q)
      rw [e] at e1
      cases e1
      exact e2
end
theorem walkG {l : PySem.W.OpenLaw} {n k : Nat} {q : Program} {loose : List Str} {XP : (Str → Option Value) → Heap → Prop} {YP : World → Heap → Prop} {d : DefRec} {K : Params → PySem.W.Frag} {A : PySem.W.Frag → Pm} {x : Str}
    (hn : l.most = some n) (hn2 : n ≤ sizeLine) (hdf : d.params.defaults = []) (hr : Room k callerA) (hY : ∀ (w : World) (h : Heap), YP w h → (K w.params).In h)
    (F : ∀ (w : World) (mg : Str → Option Value) (fa : Addr) (h : Heap), (K w.params).In h → h.Ns mainGlobals mg → mg d.name = some (.ref fa) →
      ∃ fd : FuncData, (∀ (s : Shared) (u : Value), BindsTo s fd ⟨[u], []⟩ [(x, u)]) ∧ ∀ base : Heap, (K w.params).In base → base.Ns mainGlobals mg → FnG l.prog w (K w.params) mg base (L2N.CX l.prog w) k fa fd [x] (spD (K w.params) (A (K w.params))))
    (hA : ∀ (K : PySem.W.Frag) (ns : List Int), ns.length ≤ n → A K [.rol (ns.map Dat.int)] [] (fun d _ => d = .bl true) (fun _ _ _ => False)) :
    PySem.W.WalkO q loose XP YP l.row.toRowW d [] (fun f vs => PySem.call f vs) :=
  Att.attach_call hn hdf fun w _ s1 mg _ fa _ _ _ _ _ _ ns G Y _ _ _ hmg hobj hints hlen hg => by
    obtain ⟨fd, hb, hF⟩ := F w mg fa _ (hY w _ Y) G.T.g hmg
    exact callG (hY w _ Y) G.T.g G.T.b G.T.builtins G.T.nolimit hg hobj hints (Nat.le_trans hlen hn2) hr hF hb (hA _ ns hlen)
end DL
namespace PySem.DLK
open PySem PySem.Spec PyProof.Rows PySem.HandSPX
section
variable {M : Model} {A : Around} {E : Value → Shared → Prop} {h : Heap} {g : Array GenState} {d : Drawn} {t : Nat} {os : OsState} {kw : List (Str × Value)}
variable {nm q : Str} {C N : Addr} {bs bm bmB : List Value} {hdct : Bool} {sn : List Str} {sub : List Value} {ab : Bool} {col : Option Bool} {dd : Option Addr} {k0 k1 k2 k3 k5 : Option Value} {B newId initId : String}
theorem kw_new (F : ExcBaseFacts B newId initId bmB) (hT : ∀ X : String, bm.contains (.type X) = bmB.contains (.type X)) {rest : List Value} {Q : Unit → Shared → Prop}
    (hC : h.get? C = some (excClassObj nm q C N bs bm hdct sn sub ab col dd k0 k1 k2 k3 k5 newId)) (z : Q () ⟨h, g, d, t, os⟩) : wpAny M A (checkBuiltinCall newId ⟨.ref C :: rest, kw⟩) Q E ⟨h, g, d, t, os⟩ := by
  have has : (Value.ref C :: bm).contains (.type B) = true := by rw [List.contains_cons, hT, F.hasB, Bool.or_true]
  have star := F.noStar
  simp only [checkBuiltinCall, F.newKind, F.newSplit, F.newRow]
  repeat first
    | refine wpAny_loadPart_at hC ?_
    | (refine wpAny_isSubtype_exc hC ?_; rw [has])
    | refine wpAny_staticBase_exc hC ?_
    | refine wpAny_madeBy_exc hC ?_
    | simp only [bne_self_eq_false, Bool.false_eq_true, if_false]
    | wp_step
  exact z
end
section
variable {prog : Program} {w : World} {A : Around} {E : Value → Shared → Prop} {R : Result → Shared → Prop} {h : Heap} {g : Array GenState} {d : Drawn} {t : Nat} {os : OsState} {kw : List (Str × Value)}
variable {nm q : Str} {C N : Addr} {bs bm bmB : List Value} {hdct : Bool} {sn : List Str} {sub : List Value} {ab : Bool} {col : Option Bool} {dd : Option Addr} {k0 k1 k2 k3 k5 : Option Value} {B newId initId : String}
theorem kw_made (F : ExcBaseFacts B newId initId bmB) (hT : ∀ X : String, bm.contains (.type X) = bmB.contains (.type X)) {rest : List Value}
    (hC : h.get? C = some (excClassObj nm q C N bs bm hdct sn sub ab col dd k0 k1 k2 k3 k5 newId)) (few : rest.length ≤ sizeLine)
    (z : R (.ok (.ret (.ref (h.objs.size + 1)))) ⟨(h.push (W.kdv_tup rest)).push (excO C h.objs.size), g, d, t, os⟩) :
    codeAny (model prog w) A (.builtin newId ⟨.ref C :: rest, kw⟩) R ⟨h, g, d, t, os⟩ := by
  have stop := F.ends
  have has : (Value.ref C :: bm).contains (.type B) = true := by rw [List.contains_cons, hT, F.hasB, Bool.or_true]
  have noA : (Value.ref C :: bm).contains (.type "AttributeError") = false := by rw [List.contains_cons, hT, F.noAttr]; rfl
  have noN : (Value.ref C :: bm).contains (.type "NameError") = false := by rw [List.contains_cons, hT, F.noName]; rfl
  refine codeAny_builtinAt F.entry ?_
  unfold Builtin.«BaseException.__new__»
  refine wpAt_bind (?_ : PySem.wpAt _ _ _ (stack >>= _) _ _ _)
  refine wpAt_bind (wpAt_stack fun p below => wpAt_of_wpAny ?_)
  wp_walk
  refine wpAt_of_wpAny ?_
  rw [F.owner]
  repeat first
    | with_reducible refine wpAny_madeHere_exc F.canon hC ?_
    | with_reducible refine wpAny_loadPart_at hC ?_
    | (with_reducible refine wpAny_isSubtype_exc hC ?_; first | rw [has] | rw [noA] | rw [noN])
    | wp_step
  show R _ _
  rw [Heap.size_push]
  exact z
theorem kw_type (F : ExcBaseFacts B newId initId bmB) (hT : ∀ X : String, bm.contains (.type X) = bmB.contains (.type X)) {rest : List Value} {fI : Addr} {Q : Fin → Shared → Prop}
    (hC : h.get? C = some (excClassObj nm q C N bs bm hdct sn sub ab col dd k0 k1 k2 k3 k5 newId)) (few : rest.length ≤ sizeLine)
    (hi : W.Looks (model prog w) h (typeLookup (.ref C) "__init__") (some (.ref fI))) (hb : ∀ self, W.Looks (model prog w) h (bindSpecial (.ref fI) self) (.ref fI, [self]))
    (z : codeAny (model prog w) A (.call (.ref fI) ⟨.ref (h.objs.size + 1) :: rest, kw⟩)
      (fun r s' => match r with | .ok (.ret v) => v = .none ∧ Q (.done (.ret (.ref (h.objs.size + 1)))) s' | .ok _ => False | .error e => E e s')
      ⟨(h.push (W.kdv_tup rest)).push (excO C h.objs.size), g, d, t, os⟩) :
    wpAny (model prog w) A (Builtin.«type.__call__» ⟨.ref C :: rest, kw⟩) Q E ⟨h, g, d, t, os⟩ := by
  repeat first
    | with_reducible refine wpAny_loadPart_at hC ?_
    | with_reducible refine wpAny_madeBy_exc hC ?_
    | wp_step
  refine codeAny_call_builtin_code (Code.quiet_builtin _ F.quiet) (kw_new F hT hC (kw_made F hT hC few (?_ : wpAny _ _ _ _ _ _)))
  have kp : ∀ b o, h.get? b = some o → ((h.push (W.kdv_tup rest)).push (excO C h.objs.size)).get? b = some o := fun b o e => Heap.get?_push_of_some _ (Heap.get?_push_of_some _ e)
  have c1 := kp _ _ hC
  have there : ((h.push (W.kdv_tup rest)).push (excO C h.objs.size)).get? (h.objs.size + 1) = some (excO C h.objs.size) := by heap_get
  have self : (Value.ref C :: bm).contains (.ref C) = true := by simp
  have i1 := hi.keeps kp
  have b1 := (hb (.ref (h.objs.size + 1))).keeps kp
  unfold isInstance
  repeat first
    | with_reducible refine wpAny_loadPart_at there ?_
    | (with_reducible refine wpAny_isSubtype_exc c1 ?_; rw [self])
    | wp_step
  refine (i1.at ?_ : wpAny _ _ (typeLookup (.ref C) _) _ _ _)
  refine wpAny_holding (wpAny_bind (b1.at (wpAny_bind (wpAny_call (codeAny_mono z fun r s' y => ?_)))))
  rcases r with e | (v | _ | _ | _) <;> first | exact y | exact y.elim | skip
  obtain ⟨rfl, y⟩ := y
  first
    | exact wpAny_pure (wpAny_pure y)
    | (wp_walk; exact y)
theorem kw_call (F : ExcBaseFacts B newId initId bmB) (hT : ∀ X : String, bm.contains (.type X) = bmB.contains (.type X)) {rest : List Value} {fI : Addr}
    (hC : h.get? C = some (excClassObj nm q C N bs bm hdct sn sub ab col dd k0 k1 k2 k3 k5 newId)) (few : rest.length ≤ sizeLine)
    (hi : W.Looks (model prog w) h (typeLookup (.ref C) "__init__") (some (.ref fI))) (hb : ∀ self, W.Looks (model prog w) h (bindSpecial (.ref fI) self) (.ref fI, [self]))
    (z : codeAny (model prog w) (A.under (.builtin "type.__call__" ⟨.ref C :: rest, kw⟩)) (.call (.ref fI) ⟨.ref (h.objs.size + 1) :: rest, kw⟩) (W.InitBack (h.objs.size + 1) R) ⟨(h.push (W.kdv_tup rest)).push (excO C h.objs.size), g, d, t, os⟩) :
    codeAny (model prog w) A (.call (.ref C) ⟨rest, kw⟩) R ⟨h, g, d, t, os⟩ := by
  have l1 := tc_lookup
  have l2 := tc_bind (.ref C)
  have l3 := tc_sub
  have ty : (⟨h, g, d, t, os⟩ : Shared).TypeIs (.ref C) "type" := ⟨_, hC, rfl⟩
  have chk : ∀ {A : Around} {E : Value → Shared → Prop} {Q : Unit → Shared → Prop}, Q () ⟨h, g, d, t, os⟩ → wpAny (model prog w) A (checkBuiltinCall "type.__call__" ⟨.ref C :: rest, kw⟩) Q E ⟨h, g, d, t, os⟩ := fun {A E Q} y => by
    simp only [checkBuiltinCall, tc_kind, tc_split]
    repeat any_goals first
      | assumption
      | with_reducible refine wpAny_loadPart_at hC ?_
      | with_reducible refine wpAny_onRaise ?_
      | with_reducible refine wpAny_map ?_
      | wp_step
  refine codeAny_of_tree (?_ : wpAny _ _ (callAny (.ref C) _) _ _ _)
  repeat any_goals first
    | assumption
    | with_reducible refine wpAny_loadPart_at hC ?_
    | wp_step
  refine ⟨rfl, codeAny_call_builtin_at (Code.quiet_builtin _ (by decide +kernel)) entry_typeCall (chk (kw_type F hT hC few hi hb (codeAny_mono z fun r s' y => ?_)))⟩
  rcases r with e | (v | _ | _ | _) <;> exact y
end
end PySem.DLK
namespace DL
open PySem PySem.Spec PyProof.Rows L2
/-! ### C(e, .., k = v, ..): an error made with keywords -/
/-- how its __init__ binds: us by position, ws by name (names ks); g puts them into the parameters' order -/
structure KwI (K : PySem.W.Frag) (fd : FuncData) (ps ks : List Str) (g : {α : Type} → List α → List α → List α) : Prop where
  to : ∀ (s : Shared) (a : Value) (us ws : List Value), K.In s.heap → ws.length = ks.length → (g us ws).length + 1 = ps.length → BindsTo s fd ⟨a :: us, ks.zip ws⟩ (ps.zip (a :: g us ws))
  rel : ∀ {vs zs : List V} {us ws : List Value}, Vals vs us → Vals zs ws → Vals (g vs zs) (g us ws)
/-- in the parameters' order -/
abbrev gApp {α : Type} (us ws : List α) : List α := us ++ ws
/-- the keywords in the other order -/
abbrev gRev {α : Type} (us ws : List α) : List α := us ++ ws.reverse
theorem rel_rev {zs : List V} {ws : List Value} (h : Vals zs ws) : Vals zs.reverse ws.reverse := by
  induction h with
  | nil => exact .nil
  | cons a b ih => rw [List.reverse_cons, List.reverse_cons]; exact ih.append (.cons a .nil)
section
variable {Xc : Cx} {cx : CXT} {x : Str} {e : Expr} {es : List Expr} {ta tk : TA} {p pos : Pos} {C fI : Addr} {k : Nat} {fd : FuncData} {ps ks : List Str} {sp : Sp} {kws : List Keyword} {g : {α : Type} → List α → List α → List α}
theorem mk_runK {pins : List (Addr × Obj)} {σ : L2.St} {H1 : Hp} {s1 : Shared} {vs zs : List V} {us ws : List Value} {Qr : V → Hp → Prop} {Qf : Value → Shared → Prop} (T : OexC Xc.K C) (iC : PySem.W.findIn Xc.K (.ref C) "__init__" = some (some (.ref fI))) (tI : PySem.W.typeIn Xc.K (.ref fI) = some (.type "function"))
    (F1 : FnOk Xc.prog Xc.w Xc.K Xc.mg Xc.base cx k fI fd ps sp) (hr : Room (k + 1) Xc.A) (hb : KwI Xc.K fd ps ks g) (hx : Passes cx Xc E0) (I1 : Inv Xc pins σ H1 s1) (r1 : Vals vs us) (rz : Vals zs ws) (hzl : zs.length = ks.length) (hz : vs.length ≤ 1000)
    (hq : sp (.ref (s1.heap.objs.size + 1) :: g vs zs) (upd H1 (s1.heap.objs.size + 1) (exo (s1.heap.objs.size + 1) C none)) (fun v H2 => v = .non ∧ Qr (.ref (s1.heap.objs.size + 1)) H2) E0)
    (fin : ∀ (H2 : Hp) (s2 : Shared), CE Xc.stack Xc.prog Xc.w (upd H1 (s1.heap.objs.size + 1) (exo (s1.heap.objs.size + 1) C none)) { s1 with heap := (s1.heap.push (PySem.W.kdv_tup us)).push (PySem.HandSPX.excO C s1.heap.objs.size) } (fun v H2' => v = .non ∧ H2' = H2) .none s2 →
      Inv Xc pins σ H2 s2 → Qr (.ref (s1.heap.objs.size + 1)) H2 → Qf (.ref (s1.heap.objs.size + 1)) s2) :
    wpAny (model Xc.prog Xc.w) Xc.A (call (.ref C) us (ks.zip ws)) Qf Xc.xe s1 := by
  obtain ⟨nm, q, N, bs, bm, sn, sub, ab, col, dd, k0, k1, k2, k3, k5, hC, hbm⟩ := T.cls
  obtain ⟨hp, g', dr, tk', os⟩ := s1
  have hget : ((hp.push (PySem.W.kdv_tup us)).push (PySem.HandSPX.excO C hp.objs.size)).get? (hp.objs.size + 1) = some (PySem.HandSPX.excO C hp.objs.size) := by heap_get
  have I2 : Inv Xc pins σ (upd H1 (hp.objs.size + 1) (exo (hp.objs.size + 1) C none)) ⟨(hp.push (PySem.W.kdv_tup us)).push (PySem.HandSPX.excO C hp.objs.size), g', dr, tk', os⟩ :=
    Inv.laid (t' := tk') (a := hp.objs.size + 1) (o := exo (hp.objs.size + 1) C none) (h' := (hp.push (PySem.W.kdv_tup us)).push (PySem.HandSPX.excO C hp.objs.size)) I1 (fun b o e => Heap.get?_push_of_some _ (Heap.get?_push_of_some _ e)) (Nat.le_succ _) (exo_ok hget)
  have rr : Vals (V.ref (hp.objs.size + 1) :: g vs zs) (Value.ref (hp.objs.size + 1) :: g us ws) := .cons rfl (hb.rel r1 rz)
  have n : (g us ws).length + 1 = ps.length := by have := rr.length; rw [F1.len _ _ _ _ hq] at this; simpa using this.symm
  have few : us.length ≤ sizeLine := by
    rw [← Paired.length r1, sizeLine_eq]; omega
  have bb := hb.to _ (Value.ref (hp.objs.size + 1)) us ws I2.kIn ((Paired.length rz).symm.trans hzl) n
  refine wpAny_call (PySem.DLK.kw_call F.excBase_ValueError (fun Y => PySem.HandSPX.refsVE_contains Y bm hbm) (I1.kIn _ _ hC) few (PySem.W.looks_findIn I1.kIn iC) (fun self => PySem.W.bind_fn I1.kIn self tI)
    (codeAny_mono (F1.run _ Xc.stack _ _ ⟨Value.ref (hp.objs.size + 1) :: us, ks.zip ws⟩ _ _ _ E0 (hr.make C us (ks.zip ws)) (I2.env0.make C us (ks.zip ws)) bb rr hq) fun z s' hz' => ?_))
  match z, hz' with
  | .error er, hz' => exact hx pins σ _ _ er s' I2 hz'
  | .ok (.ret u), hz' =>
    obtain ⟨v, H2, a1, a2, a3, a4, rv, hv, hQ⟩ := hz'
    subst hv
    obtain rfl : u = Value.none := rv
    obtain ⟨v', H3, I3, _, q3⟩ := I2.after (Q := fun v H' => H' = H2) (show CE _ _ _ _ _ _ Value.none s' from ⟨.non, H2, a1, a2, a3, a4, rfl, rfl⟩)
    cases q3
    exact ⟨rfl, fin H2 s' ⟨.non, H2, a1, a2, a3, a4, rfl, rfl, rfl⟩ I3 hQ⟩
  | .ok .next, hz' => exact hz'.elim
  | .ok .brk, hz' => exact hz'.elim
  | .ok .cont, hz' => exact hz'.elim
def tNewEK (C : Addr) (sp : Sp) (g : {α : Type} → List α → List α → List α) (n : Nat) (ta tk : TA) : TE := fun σ H Q => ta σ H fun vs H1 => tk σ H1 fun zs H2 => zs.length = n ∧ vs.length ≤ 1000 ∧ ∀ a, H2 a = none → sp (.ref a :: g vs zs) (upd H2 a (exo a C none)) (fun v H3 => v = .non ∧ Q (.ref a) H3) E0
theorem pe_newEK0 (T : OexC Xc.K C) (iC : PySem.W.findIn Xc.K (.ref C) "__init__" = some (some (.ref fI))) (tI : PySem.W.typeIn Xc.K (.ref fI) = some (.type "function"))
    (F1 : FnOk Xc.prog Xc.w Xc.K Xc.mg Xc.base cx k fI fd ps sp) (hr : Room (k + 1) Xc.A) (hb : KwI Xc.K fd ps ks g) (hx : Passes cx Xc E0) (hg : Gl Xc x) (hm : Xc.mg x = some (.ref C)) (hk : PK Xc kws tk)
    (hall : (backToKw pos (keywordEach kws Xc.env)).all (·.1.isSome) = true := by rfl) (hks : (backToKw pos (keywordEach kws Xc.env)).filterMap (·.1) = ks := by rfl)
    (hdb : (x == ("__debug__" : Str)) = false := by decide) (hpl : ((backTo pos (starEach [] Xc.env)).any (·.1) || (backToKw pos (keywordEach kws Xc.env)).any (·.1.isNone)) = false := by rfl) :
    PE Xc (.Call (.Name x p) [] kws pos) (tNewEK C sp g ks.length tNil tk) := ⟨fun pins s σ H Q I h => by
  refine wpAny_Call_Name_kw (ld_glob I hg hm ?_ hdb)
  refine PySem.W.callWith_KW0 (h₀ := Xc.base) I.ok.mod.kin T.kC hall (thn (hk.run pos pins s σ H _ I h) ?_) hpl
  rintro ws s2 ⟨zs, H2, I2, rz, hzl, hz, q2⟩
  refine ⟨I2.kIn, ?_⟩
  rw [hks]
  exact mk_runK (us := []) (vs := []) T iC tI F1 hr hb hx I2 .nil rz hzl hz (Qr := Q) (q2 _ (I2.hok.fresh (Nat.le_succ _))) fun H2 s2 _ J hQ => ⟨.ref _, H2, J, rfl, hQ⟩⟩
theorem pe_newEK (T : OexC Xc.K C) (iC : PySem.W.findIn Xc.K (.ref C) "__init__" = some (some (.ref fI))) (tI : PySem.W.typeIn Xc.K (.ref fI) = some (.type "function"))
    (F1 : FnOk Xc.prog Xc.w Xc.K Xc.mg Xc.base cx k fI fd ps sp) (hr : Room (k + 1) Xc.A) (hb : KwI Xc.K fd ps ks g) (hx : Passes cx Xc E0) (hg : Gl Xc x) (hm : Xc.mg x = some (.ref C)) (ha : PA Xc (e :: es) ta) (hk : PK Xc kws tk)
    (hall : (backToKw pos (keywordEach kws Xc.env)).all (·.1.isSome) = true := by rfl) (hks : (backToKw pos (keywordEach kws Xc.env)).filterMap (·.1) = ks := by rfl)
    (hdb : (x == ("__debug__" : Str)) = false := by decide) (he : starEach (e :: es) Xc.env = (false, eval e Xc.env) :: starEach es Xc.env := by rfl)
    (hpl : ((backTo pos (starEach (e :: es) Xc.env)).any (·.1) || (backToKw pos (keywordEach kws Xc.env)).any (·.1.isNone)) = false := by rfl) :
    PE Xc (.Call (.Name x p) (e :: es) kws pos) (tNewEK C sp g ks.length ta tk) := ⟨fun pins s σ H Q I h => by
  refine wpAny_Call_Name_kw (ld_glob I hg hm ?_ hdb)
  refine PySem.W.callWith_KW (h₀ := Xc.base) I.ok.mod.kin T.kC hall (thn (ha.run pos pins s σ H _ I h) ?_) hpl he
  rintro us s1 ⟨vs, H1, I1, r, q1⟩
  refine thn (hk.run pos pins s1 σ H1 _ I1 q1) ?_
  rintro ws s2 ⟨zs, H2, I2, rz, hzl, hz, q2⟩
  refine ⟨I2.kIn, ?_⟩
  rw [hks]
  exact mk_runK T iC tI F1 hr hb hx I2 r rz hzl hz (Qr := Q) (q2 _ (I2.hok.fresh (Nat.le_succ _))) fun H2 s2 _ J hQ => ⟨.ref _, H2, J, rfl, hQ⟩⟩
end
end DL
namespace DL
open PySem PySem.Spec PyProof.Rows L2
/-! ### the error that is handled, handed on to a def -/
section
variable {Xc : Cx} {K : PySem.W.Frag} {a D dd : Addr} {oe : Obj}
theorem pinned_at {pins : List (Addr × Obj)} {σ : L2.St} {H : Hp} {s : Shared} {fs : List (Str × V)} (I : Inv Xc pins σ H s) (hin : (a, oe) ∈ Xc.pn) (hz : Zc (.ref D) (some dd) oe) (hf : ∃ vs, oe.data = .fields vs) (e : H dd = some (.xd fs)) :
    ∃ (od : Obj) (mA : Str → Option Value), PySem.W.InstAt s.heap a oe D (some od) ∧ (∀ f, RelO (fs.lookup f) (mA f)) ∧ ∀ f, PySem.W.lookIn f od = some (mA f) := by
  obtain ⟨g, _⟩ := I.pin (a, oe) (List.mem_append_left _ hin)
  obtain ⟨vs, hd⟩ := hf
  obtain ⟨mA, hn, hr⟩ := (show ObjOk Xc.prog Xc.w H s.heap dd (.xd fs) from I.hok dd _ e)
  obtain ⟨od, ho, hl⟩ := lookIn_ns hn
  exact ⟨od, mA, ⟨g, hz.1, by unfold PySem.W.notCls; rw [hd] <;> rfl, by rw [hz.2]; exact ho⟩, hr, hl⟩
/-- isinstance of it -/
def rIsiH (K : PySem.W.Frag) (a D dd : Addr) : List V → Hp → VK → Prop := fun xs H Q => ∃ (fs : List (Str × V)) (c : V) (u : Value) (b : Bool), xs = [.ref a, c] ∧ ClsV c u ∧ ExT K D ∧ H dd = some (.xd fs) ∧ PySem.W.kitOne K (.ref D) u = some b ∧ Q (.bl b) H
def rIsiTH (K : PySem.W.Frag) (a D dd : Addr) : List V → Hp → VK → Prop := fun xs H Q => ∃ (fs : List (Str × V)) (tp : Addr) (cs : List V) (us : List Value) (b : Bool), xs = [.ref a, .ref tp] ∧ H tp = some (.tup cs) ∧ Paired ClsV cs us ∧ ExT K D ∧ H dd = some (.xd fs) ∧ PySem.W.kitAny K (.ref D) us = some b ∧ Q (.bl b) H
theorem call_isiH (hin : (a, oe) ∈ Xc.pn) (hz : Zc (.ref D) (some dd) oe) (hf : ∃ vs, oe.data = .fields vs) : CallR Xc (.builtin "isinstance") (rIsiH Xc.K a D dd) := by
  rintro pins s σ H xs us Q I r ⟨fs, c, u, b, rfl, k, T, e2, e, q⟩
  cases r with
  | cons ra rr => cases rr with
    | cons rc rr =>
      cases rr
      obtain rfl := k.eq rc
      cases ra
      obtain ⟨od, mA, J, _⟩ := pinned_at I hin hz hf e2
      obtain ⟨cd, hc, _⟩ := PySem.W.any_some T.hd
      exact PySem.W.kia_one (PySem.W.kitx_exc (by rw [hc]; rfl) T.ga T.gg T.o.exC T.cl T.sp T.tk T.mo) I.kIn J e (fun z => nomatch z) fun t => ⟨.bl b, H, I.tok t, rfl, q⟩
theorem call_isiTH (hin : (a, oe) ∈ Xc.pn) (hz : Zc (.ref D) (some dd) oe) (hf : ∃ vs, oe.data = .fields vs) : CallR Xc (.builtin "isinstance") (rIsiTH Xc.K a D dd) := by
  rintro pins s σ H xs us Q I r ⟨fs, tp, cs, ws, b, rfl, hT, k, T, e2, e, q⟩
  cases r with
  | cons ra rr => cases rr with
    | cons rc rr =>
      cases rr
      cases ra; cases rc
      obtain ⟨od, mA, J, _⟩ := pinned_at I hin hz hf e2
      obtain ⟨cd, hc, _⟩ := PySem.W.any_some T.hd
      obtain ⟨_, its, rv, ob, h1, h2, n, h3⟩ := (show ObjOk Xc.prog Xc.w H s.heap tp (.tup cs) from I.hok tp _ hT)
      obtain rfl := ClsV.all k rv
      obtain ⟨oc, od', dt, sl⟩ := ob
      cases h2; cases h3
      exact PySem.W.kia_tup (PySem.W.kitx_exc (by rw [hc]; rfl) T.ga T.gg T.o.exC T.cl T.sp T.tk T.mo) I.kIn J h1 e (fun z => nomatch z) fun t => ⟨.bl b, H, I.tok t, rfl, q⟩
/-- of any value, the handled error among them -/
def rIsiZ (a D dd : Addr) (K : PySem.W.Frag) : List V → Hp → VK → Prop := fun xs H Q => rIsiX K xs H Q ∨ (rIsiH K a D dd xs H Q ∨ rIsiTH K a D dd xs H Q)
theorem call_isiZ (hin : (a, oe) ∈ Xc.pn) (hz : Zc (.ref D) (some dd) oe) (hf : ∃ vs, oe.data = .fields vs) : CallR Xc (.builtin "isinstance") (rIsiZ a D dd Xc.K) := orC call_isiX (orC (call_isiH hin hz hf) (call_isiTH hin hz hf))
/-- a field of it, or of an error held as a value -/
def tFldZ (K : PySem.W.Frag) (a D dd : Addr) (f : Str) (te : TE) : TE := fun σ H Q => te σ H fun x H1 =>
  (∃ (fs : List (Str × V)) (v : V), x = .ref a ∧ ExT K D ∧ PySem.W.findIn K (.ref D) f = some none ∧ H1 dd = some (.xd fs) ∧ fs.lookup f = some v ∧ Q v H1) ∨
  ∃ (a C dx : Addr) (fs : List (Str × V)) (v : V), x = .ref a ∧ ExT K C ∧ PySem.W.findIn K (.ref C) f = some none ∧ H1 a = some (exo a C (some dx)) ∧ H1 dx = some (exd dx fs) ∧ fs.lookup f = some v ∧ Q v H1
theorem pe_fldZ {e : Expr} {te : TE} {pos : Pos} {f : Str} (hK : Xc.K = K) (hin : (a, oe) ∈ Xc.pn) (hz : Zc (.ref D) (some dd) oe) (hf : ∃ vs, oe.data = .fields vs) (he : PE Xc e te) (hb : attributeBase e f Xc.env (eval e Xc.env) = eval e Xc.env := by rfl) :
    PE Xc (.Attribute e f pos) (tFldZ K a D dd f te) := by
  subst hK
  refine ⟨fun pins s σ H Q I h => attr_of hb (thn (he.run pins s σ H _ I h) fun u s1 hh => ?_)⟩
  obtain ⟨x, H1, I1, rx, hh⟩ := hh
  rcases hh with ⟨fs, v, rfl, T, hno, e2, l, q⟩ | ⟨a', C, dx, fs, v, rfl, T, hno, e1, e2, l, q⟩
  · obtain rfl : u = Value.ref a := rx
    obtain ⟨od, mA, J, hr, hl⟩ := pinned_at I1 hin hz hf e2
    obtain ⟨w, hw, rw'⟩ := RelO.some_of (v := v) (o := mA f) (by rw [← l]; exact hr f)
    exact HandSPX.exc_get I1.kIn J T.ga T.gg T.o.exC (PySem.W.findObj_own T.hd hno rfl (by rw [hl, hw])) (handed_of rw') ⟨v, H1, I1.tok _, rw', q⟩
  · obtain rfl : u = Value.ref a' := rx
    obtain ⟨ox, od, mA, J, hns, hr, hod⟩ := exc_at I1 e1 e2
    obtain ⟨od2, ho2, hl⟩ := lookIn_ns hns
    rw [hod] at ho2; cases ho2
    obtain ⟨w, hw, rw'⟩ := RelO.some_of (v := v) (o := mA f) (by rw [← l]; exact hr f)
    exact HandSPX.exc_get I1.kIn J T.ga T.gg T.o.exC (PySem.W.findObj_own T.hd hno rfl (by rw [hl, hw])) (handed_of rw') ⟨v, H1, I1.tok _, rw', q⟩
end
/-! ### defs that take the handled error -/
structure FnGE (P : Program) (w : World) (K : PySem.W.Frag) (mg : Str → Option Value) (base : Heap) (cx : CXT) (k : Nat) (f : Addr) (fd : FuncData) (ps : List Str) (sp : Addr → Addr → Addr → Sp) : Prop where
  len : ∀ a D dd vs H Q E, sp a D dd vs H Q E → vs.length = ps.length
  go : ∀ (A : Around) (outer : List Env) (s : Shared) (H : Hp) (args : Args) (us : List Value) (vs : List V) (Q : VK) (E : XK) (p : Addr × Obj) (D dd : Addr),
    L2H.RoomH k A → Quiet A → L2H.Hot1 A p → Zc (.ref D) (some dd) p.2 → L2H.PinOk outer H s p → Env0 P w K mg base A outer s H → BindsTo s fd args (ps.zip us) → Vals vs us → sp p.1 D dd vs H Q E →
      codeAny (model P w) A (.call (.ref f) args) (CR cx outer P w H s Q E) s
section
variable {P : Program} {w : World} {K : PySem.W.Frag} {mg : Str → Option Value} {base : Heap} {cx : CXT} {x qual : Str} {st : Stmt} {f : Addr} {fd : FuncData} {N ps : List Str} {k : Nat}
theorem fn_dlE {A : Addr → Addr → Addr → Pm} (F : Fun K x qual st f fd) (S : FnScope N ps (defScope st)) (hlen : ∀ a D dd ds ms P X, A a D dd ds ms P X → ds.length = ps.length)
    (hb : ∀ (cdv : Value) (Ar : Around) (outer : List Env) (s : Shared) (H : Hp) (E : XK) (p : Addr × Obj) (D dd : Addr), L2H.Hot1 Ar p → Zc (.ref D) (some dd) p.2 → L2H.RoomH k (Ar.deeper (envOfC qual (defScope st) s.heap.objs.size f cdv)) → Quiet (Ar.deeper (envOfC qual (defScope st) s.heap.objs.size f cdv)) →
      ∃ t, PSs (L2H.cxH (L2N.CX P w) P w K mg base N qual (defScope st) f cdv Ar outer s H E p) (defBody st) t ∧
        ∀ ds ms Pd X, A p.1 D dd ds ms Pd X → BelL ms.length ds → MsBel ms → DS K (fun c d _ H => E c d H) t (startE N ds) ms (bodyOut ms.length Pd X)) :
    FnGE P w K mg base (L2N.CX P w) (k + 1) f fd ps (fun a D dd => spD K (A a D dd)) := by
  obtain ⟨oc, od, kV, doc, pm, an, cdv, ct, osl, e, lk, hcd⟩ := F.ex
  subst e
  refine ⟨fun a D dd vs H Q E ⟨W, G, ms, ds, Pd, X, _, r, z, _⟩ => by rw [r.length]; exact hlen a D dd ds ms Pd X z, fun Ar outer s H args us vs Q E p D dd hr hq hot hzc hpin e0 hbd r ⟨W, G, ms, ds, Pd, X, g, rl, z, kP, kX⟩ => ?_⟩
  obtain ⟨t, ht, hd⟩ := hb cdv Ar outer s H E p D dd hot hzc (hr.deeper _) (hq.deeper _)
  have b := RepL.bel ds vs rl
  rw [g.ln] at b
  have hl : vs.length = ps.length := by rw [rl.length]; exact hlen _ _ _ ds ms Pd X z
  refine enter_def lk hcd S hr.depth e0 hbd fun s1 ic => ?_
  have I := L2H.inv_startH (CX := L2N.CX P w) (E := E) S hpin e0 hl r ic
  exact wpAny_mono (ht.run [] s1 _ H _ I (run_body g rl kP kX (hd ds ms Pd X z b g.bel))) (fun fl s' y => flow_end rfl rfl rfl rfl rfl rfl y) fun _ _ y => y
end
section
variable {X : Cx} {cx : CXT} {k : Nat} {f : Addr} {fd : FuncData} {ps : List Str} {sp : Addr → Addr → Addr → Sp} {E : L2.St → XK} {x : Str} {p pos : Pos} {e : Expr} {es : List Expr} {t : TA} {a D dd : Addr} {oe : Obj}
/-- f(e, ..) where the handled error is handed on -/
theorem pe_gE (F : FnGE X.prog X.w X.K X.mg X.base cx k f fd ps sp) (hr : L2H.RoomH k X.A) (hq : Quiet X.A) (hot : L2H.Hot1 X.A (a, oe)) (hin : (a, oe) ∈ X.pn) (hzc : Zc (.ref D) (some dd) oe) (hg : Gl X x) (hm : X.mg x = some (.ref f)) (hk : PySem.W.keepIn X.K (.ref f) = true) (hb : Binds X.K fd ps []) (hx : ∀ σ, PassesAt cx X σ (E σ))
    (ha : PA X (e :: es) t) (hdb : (x == ("__debug__" : Str)) = false := by decide) (he : starEach (e :: es) X.env = (false, eval e X.env) :: starEach es X.env := by rfl) (hpl : (backTo pos (starEach es X.env)).any (·.1) = false := by rfl) :
    PE X (.Call (.Name x p) (e :: es) [] pos) (tCallD (sp a D dd) [] E t) := ⟨fun pins s σ H Q I h =>
  wpAny_Call_Name_kw (ld_glob I hg hm (PySem.W.callWith_K (h₀ := X.base) I.ok.mod.kin hk (thn (ha.run pos pins s σ H _ I h) fun us s1 ⟨vs, H1, I1, r, q⟩ => ⟨I1.kIn, by
    have q : sp a D dd (vs ++ []) H1 Q (E σ) := q
    rw [List.append_nil] at q
    have n : us.length = ps.length := r.length.symm.trans (F.len _ _ _ _ _ _ _ q)
    obtain ⟨p1, p2, p3, p4, p5⟩ := I1.pin (a, oe) (List.mem_append_left _ hin)
    have pin : L2H.PinOk X.stack H1 s1 (a, oe) := ⟨p1, p2, fun z => (List.mem_cons.mp (I1.stkSub a z)).elim p3 p4, p5⟩
    have b := hb s1 us I1.kIn (by rw [List.append_nil]; exact n)
    rw [List.append_nil] at b
    refine wpAny_call (codeAny_mono (F.go X.A X.stack s1 H1 ⟨us, []⟩ us vs Q (E σ) (a, oe) D dd hr hq hot hzc pin I1.env0 b r q) fun z s' hz => ?_)
    match z, hz with
    | .error er, hz => exact hx σ pins H1 s1 er s' I1 hz
    | .ok (.ret u), hz => exact I1.after hz
    | .ok .next, hz => exact hz.elim
    | .ok .brk, hz => exact hz.elim
    | .ok .cont, hz => exact hz.elim⟩) he hpl) hdb)⟩
end
end DL
namespace DL
open PySem PySem.Spec PyProof.Rows L2
section
variable {K : PySem.W.Frag} {R : WX} {e : Ev} {ms : Ms} {X : XP} {ta te : TE} {tA tK : TA} {P : Dat → Ms → Prop} {O : Out} {C a d : Addr} {f g : Str}
/-! ### errors made, one field or two, by place or by name -/
theorem spIni1_of {W : Wd} {G H1 : Hp} {v : V} {d : Dat} {Q : VK} {a : Addr} (g1 : Good K W G H1 ms) (hT : OexC K C) (hno : PySem.W.findIn K (.ref C) f = some none) (ra : Rep K W v d) (na : H1 a = none)
    (k : ∀ (W2 : Wd) (H2 : Hp), Le W W2 → Good K W2 G H2 ms → Rep K W2 (.ref a) (.exc C [(f, d)]) → Q (.ref a) H2) : spIni1 K f [.ref a, v] (upd H1 a (exo a C none)) (fun u H2 => u = .non ∧ Q (.ref a) H2) E0 := by
  refine ⟨a, C, v, rfl, hT, hno, upd_same, fun dx ndx ne => ⟨rfl, ?_⟩⟩
  obtain ⟨g2, l2⟩ := laid2 (o1 := exo a C (some dx)) (o2 := exd dx [(f, v)]) g1 na (by rw [upd_ne ne] at ndx ⊢; exact ndx)
  have eq : upd (upd (upd H1 a (exo a C none)) dx (exd dx [(f, v)])) a (exo a C (some dx)) = upd (upd H1 dx (exd dx [(f, v)])) a (exo a C (some dx)) := by
    funext b
    by_cases h1 : b = a
    · rw [h1, upd_same, upd_same]
    · rw [upd_ne h1, upd_ne h1]
      by_cases h2 : b = dx
      · rw [h2, upd_same, upd_same]
      · rw [upd_ne h2, upd_ne h2, upd_ne h1]
  rw [eq]
  exact k _ _ l2 g2 (.exc (dx := dx) upd_same (by show upd (upd W.F dx _) a _ dx = _; rw [upd_ne ne, upd_same]) (.cons (Rep.mono l2 _ _ ra) .nil))
theorem spIni2_of {W : Wd} {G H1 : Hp} {v u : V} {d d2 : Dat} {Q : VK} {a : Addr} (g1 : Good K W G H1 ms) (hT : OexC K C) (hno : PySem.W.findIn K (.ref C) f = some none) (hng : PySem.W.findIn K (.ref C) g = some none) (ra : Rep K W v d) (rb : Rep K W u d2) (na : H1 a = none)
    (k : ∀ (W2 : Wd) (H2 : Hp), Le W W2 → Good K W2 G H2 ms → Rep K W2 (.ref a) (.exc C [(g, d2), (f, d)]) → Q (.ref a) H2) : spIni2 K f g [.ref a, v, u] (upd H1 a (exo a C none)) (fun z H2 => z = .non ∧ Q (.ref a) H2) E0 := by
  refine ⟨a, C, v, u, rfl, hT, hno, hng, upd_same, fun dx ndx ne => ⟨rfl, ?_⟩⟩
  obtain ⟨g2, l2⟩ := laid2 (o1 := exo a C (some dx)) (o2 := exd dx [(g, u), (f, v)]) g1 na (by rw [upd_ne ne] at ndx ⊢; exact ndx)
  have eq : upd (upd (upd (upd H1 a (exo a C none)) dx (exd dx [(f, v)])) a (exo a C (some dx))) dx (exd dx [(g, u), (f, v)]) = upd (upd H1 dx (exd dx [(g, u), (f, v)])) a (exo a C (some dx)) := by
    funext b
    by_cases h2 : b = dx
    · rw [h2, upd_same, upd_ne ne, upd_same]
    · rw [upd_ne h2]
      by_cases h1 : b = a
      · rw [h1, upd_same, upd_same]
      · rw [upd_ne h1, upd_ne h1, upd_ne h2, upd_ne h2, upd_ne h1]
  rw [eq]
  exact k _ _ l2 g2 (.exc (dx := dx) upd_same (by show upd (upd W.F dx _) a _ dx = _; rw [upd_ne ne, upd_same]) (.cons (Rep.mono l2 _ _ rb) (.cons (Rep.mono l2 _ _ ra) .nil)))
theorem de_newE2 (hT : OexC K C) (hno : PySem.W.findIn K (.ref C) f = some none) (hng : PySem.W.findIn K (.ref C) g = some none) (h : DA K R tA e ms (fun ds m => ∃ d d2, ds = [d, d2] ∧ P (.exc C [(g, d2), (f, d)]) m) X) : DE K R (tNewE C (spIni2 K f g) tA) e ms P X := fun W G σ H Q gd s k x =>
  h W G σ H _ gd s (fun W1 vs ds H1 m1 l1 g1 r1 ⟨d, d2, hd, p⟩ => by
    subst hd
    cases r1 with
    | cons ra rr => cases rr with
      | cons rb rr =>
        cases rr
        exact ⟨by show 2 ≤ 1000; decide, fun a na => spIni2_of g1 hT hno hng ra rb na fun W2 H2 l2 g2 r => k W2 _ _ H2 m1 (l1.trans l2) g2 r p⟩) x
theorem repL_rev {W : Wd} : ∀ {ds : List Dat} {vs : List V}, RepL K W vs ds → RepL K W vs.reverse ds.reverse
  | [], _, h => by cases h; exact .nil
  | d :: ds, _, h => by
    cases h with
    | cons a b => rw [List.reverse_cons, List.reverse_cons]; exact RepL.append (repL_rev b) a
/-- what an order of arguments is of -/
def Ord (K : PySem.W.Frag) (g : {α : Type} → List α → List α → List α) : Prop := ∀ (W : Wd) (vs zs : List V) (ds es : List Dat), RepL K W vs ds → RepL K W zs es → RepL K W (g vs zs) (g ds es)
theorem ord_app : Ord K gApp := fun _ _ _ _ _ a b => repL_app a b
theorem ord_rev : Ord K gRev := fun _ _ _ _ _ a b => repL_app a (repL_rev b)
theorem de_newEK1 {n : Nat} {o : {α : Type} → List α → List α → List α} (ho : Ord K o) (hT : OexC K C) (hno : PySem.W.findIn K (.ref C) f = some none)
    (h : DA K R tA e ms (fun ds m => DA K R tK e m (fun es m2 => (es.length = n ∧ ds.length ≤ 1000) ∧ ∃ d, o ds es = [d] ∧ P (.exc C [(f, d)]) m2) X) X) : DE K R (tNewEK C (spIni1 K f) o n tA tK) e ms P X := fun W G σ H Q gd s k x => by
  refine h W G σ H _ gd s (fun W1 vs ds H1 m1 l1 g1 r1 h1 => ?_) x
  refine h1 W1 G σ H1 _ g1 (s.mono l1) (fun W2 zs es H2 m2 l2 g2 r2 ⟨⟨hn, hl⟩, d, hd, p⟩ => ?_) (x.le l1)
  have rr : RepL K W2 (o vs zs) (o ds es) := ho W2 vs zs ds es (RepL.mono l2 _ _ r1) r2
  rw [hd] at rr
  refine ⟨by rw [r2.length]; exact hn, by rw [r1.length]; exact hl, fun a na => ?_⟩
  have key : ∀ ws : List V, RepL K W2 ws [d] → spIni1 K f (.ref a :: ws) (upd H2 a (exo a C none)) (fun v H3 => v = .non ∧ Q (.ref a) H3) E0 := fun ws rr => by
    cases rr with
    | cons ra rn =>
      cases rn
      exact spIni1_of g2 hT hno ra na fun W3 H3 l3 g3 r => k W3 _ _ H3 m2 (l1.trans (l2.trans l3)) g3 r p
  exact key _ rr
theorem de_newEK2 {n : Nat} {o : {α : Type} → List α → List α → List α} (ho : Ord K o) (hT : OexC K C) (hno : PySem.W.findIn K (.ref C) f = some none) (hng : PySem.W.findIn K (.ref C) g = some none)
    (h : DA K R tA e ms (fun ds m => DA K R tK e m (fun es m2 => (es.length = n ∧ ds.length ≤ 1000) ∧ ∃ d d2, o ds es = [d, d2] ∧ P (.exc C [(g, d2), (f, d)]) m2) X) X) : DE K R (tNewEK C (spIni2 K f g) o n tA tK) e ms P X := fun W G σ H Q gd s k x => by
  refine h W G σ H _ gd s (fun W1 vs ds H1 m1 l1 g1 r1 h1 => ?_) x
  refine h1 W1 G σ H1 _ g1 (s.mono l1) (fun W2 zs es H2 m2 l2 g2 r2 ⟨⟨hn, hl⟩, d, d2, hd, p⟩ => ?_) (x.le l1)
  have rr : RepL K W2 (o vs zs) (o ds es) := ho W2 vs zs ds es (RepL.mono l2 _ _ r1) r2
  rw [hd] at rr
  refine ⟨by rw [r2.length]; exact hn, by rw [r1.length]; exact hl, fun a na => ?_⟩
  have key : ∀ ws : List V, RepL K W2 ws [d, d2] → spIni2 K f g (.ref a :: ws) (upd H2 a (exo a C none)) (fun v H3 => v = .non ∧ Q (.ref a) H3) E0 := fun ws rr => by
    cases rr with
    | cons ra rn => cases rn with
      | cons rb rn =>
        cases rn
        exact spIni2_of g2 hT hno hng ra rb na fun W3 H3 l3 g3 r => k W3 _ _ H3 m2 (l1.trans (l2.trans l3)) g3 r p
  exact key _ rr
/-! ### isinstance, fields, where the handled error may be the value -/
theorem dr_isiZx {D dd : Addr} {ds : List Dat} {r0 : List V → Hp → VK → Prop} {a : Addr} (h : DR K (rIsiX K) ds ms P) : DR K (rIsiZ a D dd K) ds ms P := fun W G H vs Q gd r k => .inl (h W G H vs Q gd r k)
theorem dr_isiH {D dd C a : Addr} {fs : List (Str × Dat)} {b : Bool} (hT : ExT K D) (hb : PySem.W.kitOne K (.ref D) (.ref C) = some b) (q : P (.bl b) ms) : DR K (rIsiZ a D dd K) [.hot a dd D fs, .ref C] ms P := fun W G H vs Q gd r k => by
  cases r with
  | cons r1 rr => cases rr with
    | cons r2 rr =>
      cases rr; cases r2
      cases r1 with
      | hot e1 rf => exact .inr (.inl ⟨_, .ref C, .ref C, b, rfl, .own C, hT, gd.fz _ _ e1, hb, k W _ _ H ms (Le.refl W) gd (.bl _) q⟩)
theorem dr_isiHt {D dd a : Addr} {n : String} {fs : List (Str × Dat)} {b : Bool} (hT : ExT K D) (hb : PySem.W.kitOne K (.ref D) (.type n) = some b) (q : P (.bl b) ms) : DR K (rIsiZ a D dd K) [.hot a dd D fs, .ty n] ms P := fun W G H vs Q gd r k => by
  cases r with
  | cons r1 rr => cases rr with
    | cons r2 rr =>
      cases rr; cases r2
      cases r1 with
      | hot e1 rf => exact .inr (.inl ⟨_, .ty n, .type n, b, rfl, .ty n, hT, gd.fz _ _ e1, hb, k W _ _ H ms (Le.refl W) gd (.bl _) q⟩)
end
end DL
namespace DL
open PySem PySem.Spec PyProof.Rows L2
section
variable {Xc : Cx} {K : PySem.W.Frag} {a D dd : Addr} {oe : Obj}
/-! ### isinstance(e, (C, ..)) of an error -/
def rIsiTS (K : PySem.W.Frag) (a D dd : Addr) : List V → Hp → VK → Prop := fun xs H Q => ∃ (b0 E tp : Addr) (cs : List V) (us : List Value) (b : Bool), xs = [.ref b0, .ref tp] ∧ SqT K H tp cs ∧ Paired ClsV cs us ∧ ExT K E ∧ PySem.W.kitAny K (.ref E) us = some b ∧ Q (.bl b) H ∧
  ((b0 = a ∧ E = D ∧ ∃ fs, H dd = some (.xd fs)) ∨ ∃ dx fs, H b0 = some (exo b0 E (some dx)) ∧ H dx = some (exd dx fs))
theorem call_isiTS (hin : (a, oe) ∈ Xc.pn) (hz : Zc (.ref D) (some dd) oe) (hf : ∃ vs, oe.data = .fields vs) : CallR Xc (.builtin "isinstance") (rIsiTS Xc.K a D dd) := by
  rintro pins s σ H xs us Q I r ⟨b0, E, tp, cs, ws, b, rfl, hT, k, T, e, q, hh⟩
  cases r with
  | cons ra rr => cases rr with
    | cons rc rr =>
      cases rr
      cases ra; cases rc
      obtain ⟨its, rv, ⟨ob, h1, h2, n, h3⟩, _⟩ := I.tuple hT
      obtain rfl := ClsV.all k rv
      obtain ⟨oc, od', dt, sl⟩ := ob
      cases h2; cases h3
      obtain ⟨cd, hc, _⟩ := PySem.W.any_some T.hd
      rcases hh with ⟨rfl, rfl, fs, e2⟩ | ⟨dx, fs, e1, e2⟩
      · obtain ⟨od, mA, J, _⟩ := pinned_at I hin hz hf e2
        exact PySem.W.kia_tup (PySem.W.kitx_exc (by rw [hc]; rfl) T.ga T.gg T.o.exC T.cl T.sp T.tk T.mo) I.kIn J h1 e (fun z => nomatch z) fun t => ⟨.bl b, H, I.tok t, rfl, q⟩
      · obtain ⟨ox, od, mA, J, _⟩ := exc_at I e1 e2
        exact PySem.W.kia_tup (PySem.W.kitx_exc (by rw [hc]; rfl) T.ga T.gg T.o.exC T.cl T.sp T.tk T.mo) I.kIn J h1 e (fun z => nomatch z) fun t => ⟨.bl b, H, I.tok t, rfl, q⟩
def rIsiW (a D dd : Addr) (K : PySem.W.Frag) : List V → Hp → VK → Prop := fun xs H Q => rIsiZ a D dd K xs H Q ∨ rIsiTS K a D dd xs H Q
theorem call_isiW (hin : (a, oe) ∈ Xc.pn) (hz : Zc (.ref D) (some dd) oe) (hf : ∃ vs, oe.data = .fields vs) : CallR Xc (.builtin "isinstance") (rIsiW a D dd Xc.K) := orC (call_isiZ hin hz hf) (call_isiTS hin hz hf)
/-- .. where nothing is handled -/
def rIsiTC (K : PySem.W.Frag) : List V → Hp → VK → Prop := fun xs H Q => ∃ (b0 E tp : Addr) (cs : List V) (us : List Value) (b : Bool) (dx : Addr) (fs : List (Str × V)), xs = [.ref b0, .ref tp] ∧ SqT K H tp cs ∧ Paired ClsV cs us ∧ ExT K E ∧ PySem.W.kitAny K (.ref E) us = some b ∧ H b0 = some (exo b0 E (some dx)) ∧ H dx = some (exd dx fs) ∧ Q (.bl b) H
theorem call_isiTC : CallR Xc (.builtin "isinstance") (rIsiTC Xc.K) := by
  rintro pins s σ H xs us Q I r ⟨b0, E, tp, cs, ws, b, dx, fs, rfl, hT, k, T, e, e1, e2, q⟩
  cases r with
  | cons ra rr => cases rr with
    | cons rc rr =>
      cases rr
      cases ra; cases rc
      obtain ⟨its, rv, ⟨ob, h1, h2, n, h3⟩, _⟩ := I.tuple hT
      obtain rfl := ClsV.all k rv
      obtain ⟨oc, od', dt, sl⟩ := ob
      cases h2; cases h3
      obtain ⟨cd, hc, _⟩ := PySem.W.any_some T.hd
      obtain ⟨ox, od, mA, J, _⟩ := exc_at I e1 e2
      exact PySem.W.kia_tup (PySem.W.kitx_exc (by rw [hc]; rfl) T.ga T.gg T.o.exC T.cl T.sp T.tk T.mo) I.kIn J h1 e (fun z => nomatch z) fun t => ⟨.bl b, H, I.tok t, rfl, q⟩
def rIsiXT (K : PySem.W.Frag) : List V → Hp → VK → Prop := fun xs H Q => rIsiX K xs H Q ∨ rIsiTC K xs H Q
theorem call_isiXT : CallR Xc (.builtin "isinstance") (rIsiXT Xc.K) := orC call_isiX call_isiTC
end
section
variable {K : PySem.W.Frag} {ms : Ms} {P : Dat → Ms → Prop} {D a dd : Addr} {fs : List (Str × Dat)} {b : Bool}
theorem cls_refs : ∀ (Cs : List Addr), Paired ClsV (Cs.map V.ref) (Cs.map Value.ref)
  | [] => .nil
  | C :: Cs => .cons (.own C) (cls_refs Cs)
theorem refsRep {W : Wd} : ∀ {vs : List V} {Cs : List Addr}, RepL K W vs (Cs.map Dat.ref) → vs = Cs.map V.ref
  | _, [], h => by cases h; rfl
  | _, C :: Cs, h => by cases h with | cons x y => cases x; rw [refsRep y]; rfl
theorem dr_isiTCx {Cs : List Addr} (hT : ExT K D) (hb : PySem.W.kitAny K (.ref D) (Cs.map Value.ref) = some b) (q : P (.bl b) ms) : DR K (rIsiXT K) [.exc D fs, .tup (Cs.map Dat.ref)] ms P := fun W G H vs Q gd r k => by
  cases r with
  | cons r1 rr => cases rr with
    | cons r2 rr =>
      cases rr
      cases r1 with
      | exc e1 e2 rf => cases r2 with
        | tup hq rl =>
          rw [refsRep rl] at hq
          exact .inr ⟨_, D, _, _, _, b, _, _, rfl, Same.tup gd.fz hq, cls_refs Cs, hT, hb, gd.fz _ _ e1, gd.fz _ _ e2, k W _ _ H ms (Le.refl W) gd (.bl _) q⟩
theorem dr_isiTSx {Cs : List Addr} {E : Addr} (hT : ExT K E) (hb : PySem.W.kitAny K (.ref E) (Cs.map Value.ref) = some b) (q : P (.bl b) ms) : DR K (rIsiW a D dd K) [.exc E fs, .tup (Cs.map Dat.ref)] ms P := fun W G H vs Q gd r k => by
  cases r with
  | cons r1 rr => cases rr with
    | cons r2 rr =>
      cases rr
      cases r1 with
      | exc e1 e2 rf => cases r2 with
        | tup hq rl =>
          rw [refsRep rl] at hq
          exact .inr ⟨_, E, _, _, _, b, rfl, Same.tup gd.fz hq, cls_refs Cs, hT, hb, k W _ _ H ms (Le.refl W) gd (.bl _) q, .inr ⟨_, _, gd.fz _ _ e1, gd.fz _ _ e2⟩⟩
theorem dr_isiTSh {Cs : List Addr} (hT : ExT K D) (hb : PySem.W.kitAny K (.ref D) (Cs.map Value.ref) = some b) (q : P (.bl b) ms) : DR K (rIsiW a D dd K) [.hot a dd D fs, .tup (Cs.map Dat.ref)] ms P := fun W G H vs Q gd r k => by
  cases r with
  | cons r1 rr => cases rr with
    | cons r2 rr =>
      cases rr
      cases r1 with
      | hot e1 rf => cases r2 with
        | tup hq rl =>
          rw [refsRep rl] at hq
          exact .inr ⟨_, D, _, _, _, b, rfl, Same.tup gd.fz hq, cls_refs Cs, hT, hb, k W _ _ H ms (Le.refl W) gd (.bl _) q, .inl ⟨rfl, rfl, _, gd.fz _ _ e1⟩⟩
/-- classes of one base: an error of one is of no other -/
theorem kit_ex {C D : Addr} {o1 o2 : Obj} {c1 c2 : ClassData} (h1 : K.lookup D = some o1) (d1 : o1.data = .cls c1) (m1 : c1.mro = .ref D :: c2.mro) (hC : PySem.W.clsIn K C ≠ none) (tC : PySem.W.typeIn K (.ref C) = some (.type "type")) :
    PySem.W.kitOne K (.ref D) (.ref C) = some (decide (D = C) || c2.mro.contains (.ref C)) := by
  unfold PySem.W.kitOne
  by_cases e : D = C
  · subst e
    rw [if_pos (by simp)]
    simp
  · rw [if_neg (by simp [e])]
    have h : (PySem.W.clsIn K C).isSome = true := by cases q : PySem.W.clsIn K C with | none => exact absurd q hC | some _ => rfl
    show (if ((PySem.W.clsIn K C).isSome && PySem.W.typeIn K (.ref C) == some (.type "type")) = true then PySem.W.subIn K (.ref D) (.ref C) else none) = _
    rw [if_pos (by rw [h, tC]; rfl)]
    show PySem.W.mroIn K D (.ref C) = _
    obtain ⟨oc, od, dt, sl⟩ := o1
    cases d1
    unfold PySem.W.mroIn PySem.W.clsIn
    rw [h1]
    show (if c1.mro.isEmpty = true then none else some (c1.mro.contains (.ref C))) = _
    rw [m1]
    have ne : (Value.ref C == Value.ref D) = false := by simp; exact fun z => e z.symm
    simp [List.contains_cons, ne, e]
    exact fun z => absurd z.symm e
end
end DL
/-! list != list, the items told by EqP (lists and dicts among them) -/
namespace PySem.SeqAt
open AutoSeq1 (wpAny_loadPart')
open MeetsSeq MeetsSeq2 MeetsSeq3 SeqRoads2
section
variable {prog : Program} {w : World}
/-- the two lists stand, their items' answers are known -/
def Two (prog : Program) (w : World) (l b : Addr) (o1 o2 : Obj) (xs ys : Array Value) (e : Nat → Bool) (A : Around) (s : Shared) : Prop :=
  s.heap.get? l = some o1 ∧ s.heap.get? b = some o2 ∧ ∀ j (h1 : j < xs.size) (h2 : j < ys.size), EqP prog w A.in1 s xs[j] ys[j] (e j)
theorem neLoopP (l b : Addr) (xs ys : Array Value) (n m : Nat) (d1 d2 : Option Addr) (t1 t2 : Array (Option Value)) (sz : xs.size = ys.size) (e : Nat → Bool) (k : Nat) :
    ∀ i : Nat, xs.size - i = k → MeetsIn prog w (Builtin.«list.__eq__.loop» ⟨[.ref l, .ref b, rawInt i, rawInt 3], []⟩)
      (fun A R s => (s.heap.get? l = some { cls := .type "list", dict := d1, data := .seq xs n, slots := t1 } ∧ s.heap.get? b = some { cls := .type "list", dict := d2, data := .seq ys m, slots := t2 }) ∧
        (∀ j (h1 : j < xs.size) (h2 : j < ys.size), EqP prog w A.in1 s xs[j] ys[j] (e j)) ∧ R (.ok (.ret (.bool (!((List.range xs.size).drop i).all e)))) s) := by
  induction k with
  | zero =>
    rintro i hk A R ⟨hp, g, d, tk, os⟩ ⟨⟨gl, gb⟩, he, z⟩
    wp_walk using wpAny_loadPart' gl, wpAny_loadPart' gb
    have none1 : xs[((i : Nat) : Int).toNat]? = none := by simp; omega
    have none2 : ys[((i : Nat) : Int).toNat]? = none := by simp; omega
    rw [show (List.range xs.size).drop i = [] by simp; omega] at z
    rw [none1, none2]
    wp_walk using wpAny_loadPart' gl, wpAny_loadPart' gb
    show R (.ok (.ret (.bool (xs.size != ys.size)))) _
    rw [sz]
    simpa using z
  | succ k ih =>
    rintro i hk A R ⟨hp, g, d, tk, os⟩ ⟨⟨gl, gb⟩, he, z⟩
    wp_walk using wpAny_loadPart' gl, wpAny_loadPart' gb
    have lt1 : i < xs.size := by omega
    have lt2 : i < ys.size := by omega
    have some1 : xs[((i : Nat) : Int).toNat]? = some xs[i] := by simp [lt1]
    have some2 : ys[((i : Nat) : Int).toNat]? = some ys[i] := by simp [lt2]
    rw [show (List.range xs.size).drop i = i :: (List.range xs.size).drop (i + 1) by simp [List.drop_eq_getElem_cons, lt1], List.all_cons] at z
    rw [some1, some2]
    refine wpAny_bind (he i lt1 lt2 _ _ ?_)
    cases ei : e i with
    | true =>
      rw [ei] at z
      wp_walk
      rw [show ((i : Int) + 1) = ((i + 1 : Nat) : Int) by push_cast; rfl]
      exact ⟨plainId_quiet plain_eq_loop _, codeAny_builtin entry_eq_loop (by
        rw [Around.under_plainId plain_eq_loop _]
        exact ih (i + 1) (by omega) A R _ ⟨⟨gl, gb⟩, he, by simpa using z⟩)⟩
    | false =>
      rw [ei] at z
      wp_walk using wpAny_loadPart' gl, wpAny_loadPart' gb
      rw [some1, some2]
      wp_walk
      simpa using z
end
end PySem.SeqAt
namespace PySem.SeqAt
open AutoSeq1 (wpAny_loadPart')
open MeetsSeq MeetsSeq2 MeetsSeq3 SeqRoads2
section
variable {prog : Program} {w : World}
theorem neP_in (l b : Addr) (xs ys : Array Value) (n m : Nat) (d1 d2 : Option Addr) (t1 t2 : Array (Option Value)) (sz : xs.size = ys.size) (e : Nat → Bool) :
    MeetsIn prog w (Builtin.«list.__ne__» ⟨[.ref l, .ref b], []⟩)
      (fun A R s => (s.heap.get? l = some { cls := .type "list", dict := d1, data := .seq xs n, slots := t1 } ∧ s.heap.get? b = some { cls := .type "list", dict := d2, data := .seq ys m, slots := t2 }) ∧
        (∀ j (h1 : j < xs.size) (h2 : j < ys.size), EqP prog w A.in1 s xs[j] ys[j] (e j)) ∧ R (.ok (.ret (.bool (!(List.range xs.size).all e)))) s) := by
  rintro A R ⟨hp, g, d, tk, os⟩ ⟨⟨gl, gb⟩, he, z⟩
  have sub := AutoSeq1.sub_list_list
  have same : ¬ (xs.size != ys.size) = true := by simp [sz]
  wp_walk using wpAny_loadPart' gl, wpAny_loadPart' gb
  exact ⟨plainId_quiet plain_eq_loop _, codeAny_builtin entry_eq_loop (by
    rw [Around.under_plainId plain_eq_loop _]
    exact neLoopP l b xs ys n m d1 d2 t1 t2 sz e _ 0 rfl A R _ ⟨⟨gl, gb⟩, he, by simpa using z⟩)⟩
theorem neP_lists {A : Around} {s : Shared} {l b : Addr} {xs ys : Array Value} {e : Nat → Bool} (hl : s.heap.IsList l xs) (hb : s.heap.IsList b ys) (sz : xs.size = ys.size) (hu : A.units < cLine)
    (he : ∀ j (h1 : j < xs.size) (h2 : j < ys.size), EqP prog w A.in1 s xs[j] ys[j] (e j)) (E Q : Value → Shared → Prop) (z : Q (.bool (!(List.range xs.size).all e)) s) : wpAny (model prog w) A (richCompare .NotEq (.ref l) (.ref b)) Q E s := by
  obtain ⟨⟨c1, d1, a1, t1⟩, g1, k1, n, q1⟩ := id hl
  obtain ⟨⟨c2, d2, a2, t2⟩, g2, k2, m, q2⟩ := id hb
  cases k1; cases q1; cases k2; cases q2
  have y1 : s.TypeIs (.ref l) "list" := ⟨_, g1, rfl⟩
  have y2 : s.TypeIs (.ref b) "list" := ⟨_, g2, rfl⟩
  exact wpAny_richCompare_same_room (op := .NotEq) y1 y2 F.slot_list_ne (call_meetsIn F.slot_list_ne y1 F.entry_list_ne (F.args_list_ne_2 _ _) (neP_in l b xs ys n m d1 d2 t1 t2 sz e)
    ⟨⟨g1, g2⟩, he, show Value.bool (!(List.range xs.size).all e) ≠ Value.notImplemented ∧ Q (.bool (!(List.range xs.size).all e)) s from ⟨(fun x => nomatch x), z⟩⟩) hu
end
end PySem.SeqAt
namespace DL
open PySem PySem.Spec PyProof.Rows L2
/-- two lists of equal items are not != -/
def rNeL (K : PySem.W.Frag) : R2 := fun x y H Q => ∃ n a b xs ys, n ≤ 60 ∧ x = .ref a ∧ y = .ref b ∧ SqL K H a xs ∧ SqL K H b ys ∧ Paired (EqV K H n) xs ys ∧ Q (.bl false) H
theorem op_neL {X : Cx} (hu : X.A.units + 64 < cLine) : OpR X (compareOp .NotEq) (rNeL X.K) := by
  rintro pins s σ H x y v u Q I rx ry ⟨n, a, b, xs, ys, hn, rfl, rfl, ha, hb, hp, q⟩
  cases (show v = Value.ref a from rx)
  cases (show u = Value.ref b from ry)
  obtain ⟨us, r1, p1, _⟩ := I.list ha
  obtain ⟨ws, r2, p2, _⟩ := I.list hb
  have sz : us.toArray.size = ws.toArray.size := by
    rw [List.size_toArray, List.size_toArray, ← r1.length, ← r2.length]
    exact Paired.length hp
  refine SeqAt.neP_lists (e := fun _ => true) p1.isList p2.isList sz (by omega) (fun j h1 h2 => ?_) _ _ ?_
  · have k := items_run (eqV_run I n X.A.in1 (by show X.A.units + 1 + n < cLine; omega)) hp r1 r2 j (by simpa using h1) (by simpa using h2)
    simpa using k
  · rw [show ((List.range us.toArray.size).all fun _ => true) = true from List.all_eq_true.mpr fun _ _ => rfl]
    exact ⟨.bl false, H, I, rfl, q⟩
end DL
namespace DL
open PySem PySem.Spec PyProof.Rows L2
/-- an error class with one field, its maker -/
structure ErrT (K : PySem.W.Frag) (mg : Str → Option Value) (nm f : Str) (C fI : Addr) (fdI : FuncData) : Prop where
  t : ExT K C
  m : mg nm = some (.ref C)
  no : PySem.W.findIn K (.ref C) f = some none
  i : PySem.W.findIn K (.ref C) "__init__" = some (some (.ref fI))
  ti : PySem.W.typeIn K (.ref fI) = some (.type "function")
  b : Binds K fdI ["self", f] []
  kA : KwI K fdI ["self", f] [f] gApp
/-- .. with two fields -/
structure ErrT2 (K : PySem.W.Frag) (mg : Str → Option Value) (nm f g : Str) (C fI : Addr) (fdI : FuncData) : Prop where
  t : ExT K C
  m : mg nm = some (.ref C)
  no : PySem.W.findIn K (.ref C) f = some none
  ng : PySem.W.findIn K (.ref C) g = some none
  i : PySem.W.findIn K (.ref C) "__init__" = some (some (.ref fI))
  ti : PySem.W.typeIn K (.ref fI) = some (.type "function")
  b : Binds K fdI ["self", f, g] []
  kA : KwI K fdI ["self", f, g] [f, g] gApp
  kR : KwI K fdI ["self", f, g] [g, f] gRev
  kP : KwI K fdI ["self", f, g] [g] gApp
theorem passE {X : Cx} : Passes (L2N.CX X.prog X.w) X E0 := fun _ σ H s e s' I h => passN σ _ H s e s' I h
end DL
namespace DL
open PySem PySem.Spec PyProof.Rows L2
/-! ### the error that a suite holds, handed on to a def -/
section
variable {X : Cx} {cx : CXT} {k : Nat} {f : Addr} {fd : FuncData} {ps : List Str} {sp : Addr → Addr → Addr → Sp} {E : L2.St → XK} {x : Str} {p pos : Pos} {e : Expr} {es : List Expr} {t : TA} {a : Addr} {cls : Value} {d : Option Addr} {oe : Obj}
def tCallZ (a : Addr) (cls : Value) (d : Option Addr) (sp : Addr → Addr → Addr → Sp) (E : L2.St → XK) (t : TA) : TE := fun σ H Q => ∃ D dd, cls = .ref D ∧ d = some dd ∧ tCallD (sp a D dd) [] E t σ H Q
theorem pe_gZ (F : FnGE X.prog X.w X.K X.mg X.base cx k f fd ps sp) (hr : L2H.RoomH k X.A) (hq : Quiet X.A) (hot : L2H.Hot1 X.A (a, oe)) (hin : (a, oe) ∈ X.pn) (hz : L2N.Zn cls d oe) (hg : Gl X x) (hm : X.mg x = some (.ref f)) (hk : PySem.W.keepIn X.K (.ref f) = true) (hb : Binds X.K fd ps []) (hx : ∀ σ, PassesAt cx X σ (E σ))
    (ha : PA X (e :: es) t) (hdb : (x == ("__debug__" : Str)) = false := by decide) (he : starEach (e :: es) X.env = (false, eval e X.env) :: starEach es X.env := by rfl) (hpl : (backTo pos (starEach es X.env)).any (·.1) = false := by rfl) :
    PE X (.Call (.Name x p) (e :: es) [] pos) (tCallZ a cls d sp E t) := ⟨fun pins s σ H Q I h => by
  obtain ⟨D, dd, hc, hd, h⟩ := h
  subst hc; subst hd
  exact (pe_gE F hr hq hot hin hz.zc hg hm hk hb hx ha hdb he hpl).run pins s σ H Q I h⟩
theorem hot1S {pn : List (Addr × Obj)} (hz : L2N.Zn cls d oe) (hf : ∃ vs, oe.data = .fields vs) : L2H.Hot1 (X.suite a ((a, oe) :: pn)).A (a, oe) := by
  obtain ⟨vs, e⟩ := hf
  exact ⟨rfl, vs, e, hz.2.2 vs e⟩
theorem hotF {A : Around} {p : Addr × Obj} (hot : L2H.Hot1 A p) : ∃ vs, p.2.data = .fields vs := by
  obtain ⟨_, vs, e, _⟩ := hot
  exact ⟨vs, e⟩
end
section
variable {K : PySem.W.Frag} {R : WX} {e : Ev} {ms : Ms} {X : XP} {ta te : TE} {tA tK : TA} {P : Dat → Ms → Prop} {O : Out} {C D a dd : Addr} {f g : Str}
theorem de_gZ {A : Addr → Addr → Addr → Pm} (h : DA K R tA e ms (fun ds m => A a D dd ds m P (fun _ _ _ => False)) X) : DE K R (tCallZ a (.ref D) (some dd) (fun a D dd => spD K (A a D dd)) (fun _ => E0) tA) e ms P X := fun W G σ H Q gd s k x =>
  ⟨D, dd, rfl, rfl, de_g0 (dds := []) (fun _ => .nil) (by simpa using h) W G σ H Q gd s k x⟩
/-- a field of it -/
theorem de_fldZh {fs : List (Str × Dat)} {d : Dat} (hT : ExT K D) (hno : PySem.W.findIn K (.ref D) f = some none) (hl : fs.lookup f = some d) (h : DE K R te e ms (fun x m => x = .hot a dd D fs ∧ P d m) X) : DE K R (tFldZ K a D dd f te) e ms P X := fun W G σ H Q gd s k x =>
  h W G σ H _ gd s (fun W1 v y H1 m1 l1 g1 r1 ⟨hx, p⟩ => by
    subst hx
    cases r1 with
    | hot e1 rf =>
      obtain ⟨u, h1, h2⟩ := repF_look rf hl
      exact .inl ⟨_, u, rfl, hT, hno, g1.fz _ _ e1, h1, k W1 _ _ H1 m1 l1 g1 h2 p⟩) x
theorem de_fldZx {fs : List (Str × Dat)} {d : Dat} (hT : ExT K C) (hno : PySem.W.findIn K (.ref C) f = some none) (hl : fs.lookup f = some d) (h : DE K R te e ms (fun x m => x = .exc C fs ∧ P d m) X) : DE K R (tFldZ K a D dd f te) e ms P X := fun W G σ H Q gd s k x =>
  h W G σ H _ gd s (fun W1 v y H1 m1 l1 g1 r1 ⟨hx, p⟩ => by
    subst hx
    cases r1 with
    | exc e1 e2 rf =>
      obtain ⟨u, h1, h2⟩ := repF_look rf hl
      exact .inr ⟨_, C, _, _, u, rfl, hT, hno, g1.fz _ _ e1, g1.fz _ _ e2, h1, k W1 _ _ H1 m1 l1 g1 h2 p⟩) x
/-! ### raise, more of it -/
theorem raised2 {W : Wd} {G H : Hp} {v u : V} {d d2 : Dat} {Q : XK} (g1 : Good K W G H ms) (hT : OexC K C) (hno : PySem.W.findIn K (.ref C) f = some none) (hng : PySem.W.findIn K (.ref C) g = some none) (ra : Rep K W v d) (rb : Rep K W u d2)
    (k : ∀ (W' : Wd) (dx : Addr) (H' : Hp), Le W W' → Good K W' G H' ms → W'.F dx = some (.xd [(g, u), (f, v)]) → Rep K W' v d → Rep K W' u d2 → Q (.ref C) (some dx) H') (a : Addr) (na : H a = none) :
    spIni2 K f g [.ref a, v, u] (upd H a (exo a C none)) (fun z H2 => z = .non ∧ ∃ (dx : Addr) (fs : List (Str × V)), H2 a = some (exo a C (some dx)) ∧ H2 dx = some (exd dx fs) ∧ H dx = none ∧ Q (.ref C) (some dx) (upd (L2.del H2 a) dx (.xd fs))) (fun _ _ _ => False) := by
  refine ⟨a, C, v, u, rfl, hT, hno, hng, upd_same, fun dx ndx ne => ⟨rfl, dx, [(g, u), (f, v)], by rw [upd_ne (Ne.symm ne), upd_same], by rw [upd_same], by rw [upd_ne ne] at ndx; exact ndx, ?_⟩⟩
  have n2 : H dx = none := by rw [upd_ne ne] at ndx; exact ndx
  have eq : upd (L2.del (upd (upd (upd (upd H a (exo a C none)) dx (exd dx [(f, v)])) a (exo a C (some dx))) dx (exd dx [(g, u), (f, v)])) a) dx (.xd [(g, u), (f, v)]) = upd H dx (.xd [(g, u), (f, v)]) := by
    funext b
    by_cases h2 : b = dx
    · rw [h2, upd_same, upd_same]
    · rw [upd_ne h2, upd_ne h2]
      by_cases h1 : b = a
      · rw [h1, del_same, na]
      · rw [del_ne h1, upd_ne h2, upd_ne h1, upd_ne h2, upd_ne h1]
  rw [eq]
  obtain ⟨g2, l2⟩ := g1.laid (o := .xd [(g, u), (f, v)]) n2
  exact k _ dx _ l2 g2 upd_same (Rep.mono l2 _ _ ra) (Rep.mono l2 _ _ rb)
theorem ds_raise2 (hT : OexC K C) (hno : PySem.W.findIn K (.ref C) f = some none) (hng : PySem.W.findIn K (.ref C) g = some none) (h : DA K R tA e ms (fun ds m => ∃ d d2, ds = [d, d2] ∧ O.ex C [(g, d2), (f, d)] e m) (O.xp e)) : DS K R (tRaiseO C (spIni2 K f g) R tA) e ms O := fun W G σ H D gd s ft =>
  h W G σ H _ gd s (fun W1 vs ds H1 m1 l1 g1 r1 ⟨d, d2, hd, p⟩ => by
    subst hd
    cases r1 with
    | cons ra rr => cases rr with
      | cons rb rr =>
        cases rr
        refine ⟨by show 2 ≤ 1000; decide, fun a na => ?_⟩
        exact raised2 (Q := fun cls d H' => R cls d σ H') g1 hT hno hng ra rb (fun W' dx H' l' g' hx r' r2' => ft.ex W' σ e C dx _ [(g, d2), (f, d)] H' m1 (l1.trans l') g' ((s.mono l1).mono l') hx (.cons r2' (.cons r' .nil)) p) a na) (ft.ex.at s)
/-- raise C(.., k = v, ..) -/
def tMkK (C : Addr) (sp : Sp) (g : {α : Type} → List α → List α → List α) (n : Nat) (ta tk : TA) : L2.St → Hp → XK → Prop := fun σ H Q => ta σ H fun vs H1 => tk σ H1 fun zs H2 => zs.length = n ∧ vs.length ≤ 1000 ∧ ∀ a, H2 a = none → sp (.ref a :: g vs zs) (upd H2 a (exo a C none))
  (fun v H3 => v = .non ∧ ∃ (d : Addr) (fs : List (Str × V)), H3 a = some (exo a C (some d)) ∧ H3 d = some (exd d fs) ∧ H2 d = none ∧ Q (.ref C) (some d) (upd (L2.del H3 a) d (.xd fs))) (fun _ _ _ => False)
def tRaiseK (C : Addr) (sp : Sp) (g : {α : Type} → List α → List α → List α) (n : Nat) (R : WX) (ta tk : TA) : TS := fun _ σ H => tMkK C sp g n ta tk σ H fun cls d H' => R cls d σ H'
theorem ds_raiseK1 {n : Nat} {o : {α : Type} → List α → List α → List α} (ho : Ord K o) (hT : OexC K C) (hno : PySem.W.findIn K (.ref C) f = some none)
    (h : DA K R tA e ms (fun ds m => DA K R tK e m (fun es m2 => (es.length = n ∧ ds.length ≤ 1000) ∧ ∃ d, o ds es = [d] ∧ O.ex C [(f, d)] e m2) (O.xp e)) (O.xp e)) : DS K R (tRaiseK C (spIni1 K f) o n R tA tK) e ms O := fun W G σ H D gd s ft => by
  refine h W G σ H _ gd s (fun W1 vs ds H1 m1 l1 g1 r1 h1 => ?_) (ft.ex.at s)
  refine h1 W1 G σ H1 _ g1 (s.mono l1) (fun W2 zs es H2 m2 l2 g2 r2 ⟨⟨hn, hl⟩, d, hd, p⟩ => ?_) ((ft.le l1).ex.at (s.mono l1))
  have rr : RepL K W2 (o vs zs) (o ds es) := ho W2 vs zs ds es (RepL.mono l2 _ _ r1) r2
  rw [hd] at rr
  refine ⟨by rw [r2.length]; exact hn, by rw [r1.length]; exact hl, fun a na => ?_⟩
  have key : ∀ ws : List V, RepL K W2 ws [d] → spIni1 K f (.ref a :: ws) (upd H2 a (exo a C none)) (fun v H3 => v = .non ∧ ∃ (d : Addr) (fs : List (Str × V)), H3 a = some (exo a C (some d)) ∧ H3 d = some (exd d fs) ∧ H2 d = none ∧ R (.ref C) (some d) σ (upd (L2.del H3 a) d (.xd fs))) (fun _ _ _ => False) := fun ws rr => by
    cases rr with
    | cons ra rn =>
      cases rn
      exact raised1 (Q := fun cls d H' => R cls d σ H') g2 hT hno ra (fun W' dx H' l' g' hx r' => ft.ex W' σ e C dx _ [(f, d)] H' m2 (l1.trans (l2.trans l')) g' (s.mono (l1.trans (l2.trans l'))) hx (.cons r' .nil) p) a na
  exact key _ rr
theorem ds_raiseK2 {n : Nat} {o : {α : Type} → List α → List α → List α} (ho : Ord K o) (hT : OexC K C) (hno : PySem.W.findIn K (.ref C) f = some none) (hng : PySem.W.findIn K (.ref C) g = some none)
    (h : DA K R tA e ms (fun ds m => DA K R tK e m (fun es m2 => (es.length = n ∧ ds.length ≤ 1000) ∧ ∃ d d2, o ds es = [d, d2] ∧ O.ex C [(g, d2), (f, d)] e m2) (O.xp e)) (O.xp e)) : DS K R (tRaiseK C (spIni2 K f g) o n R tA tK) e ms O := fun W G σ H D gd s ft => by
  refine h W G σ H _ gd s (fun W1 vs ds H1 m1 l1 g1 r1 h1 => ?_) (ft.ex.at s)
  refine h1 W1 G σ H1 _ g1 (s.mono l1) (fun W2 zs es H2 m2 l2 g2 r2 ⟨⟨hn, hl⟩, d, d2, hd, p⟩ => ?_) ((ft.le l1).ex.at (s.mono l1))
  have rr : RepL K W2 (o vs zs) (o ds es) := ho W2 vs zs ds es (RepL.mono l2 _ _ r1) r2
  rw [hd] at rr
  refine ⟨by rw [r2.length]; exact hn, by rw [r1.length]; exact hl, fun a na => ?_⟩
  have key : ∀ ws : List V, RepL K W2 ws [d, d2] → spIni2 K f g (.ref a :: ws) (upd H2 a (exo a C none)) (fun v H3 => v = .non ∧ ∃ (d : Addr) (fs : List (Str × V)), H3 a = some (exo a C (some d)) ∧ H3 d = some (exd d fs) ∧ H2 d = none ∧ R (.ref C) (some d) σ (upd (L2.del H3 a) d (.xd fs))) (fun _ _ _ => False) := fun ws rr => by
    cases rr with
    | cons ra rn => cases rn with
      | cons rb rn =>
        cases rn
        exact raised2 (Q := fun cls d H' => R cls d σ H') g2 hT hno hng ra rb (fun W' dx H' l' g' hx r' r2' => ft.ex W' σ e C dx _ [(g, d2), (f, d)] H' m2 (l1.trans (l2.trans l')) g' (s.mono (l1.trans (l2.trans l'))) hx (.cons r2' (.cons r' .nil)) p) a na
  exact key _ rr
end
section
variable {Xc : Cx} {cx : CXT} {x : Str} {tk : TA} {p pos pos2 : Pos} {C fI : Addr} {k : Nat} {fd : FuncData} {ps ks : List Str} {sp : Sp} {kws : List Keyword} {g : {α : Type} → List α → List α → List α} {W : WX}
theorem pmk_newK0 (T : OexC Xc.K C) (iC : PySem.W.findIn Xc.K (.ref C) "__init__" = some (some (.ref fI))) (tI : PySem.W.typeIn Xc.K (.ref fI) = some (.type "function"))
    (F1 : FnOk Xc.prog Xc.w Xc.K Xc.mg Xc.base cx k fI fd ps sp) (hr : Room (k + 1) Xc.A) (hb : KwI Xc.K fd ps ks g) (hx : Passes cx Xc E0) (hg : Gl Xc x) (hm : Xc.mg x = some (.ref C)) (hk : PK Xc kws tk)
    (hall : (backToKw pos (keywordEach kws Xc.env)).all (·.1.isSome) = true := by rfl) (hks : (backToKw pos (keywordEach kws Xc.env)).filterMap (·.1) = ks := by rfl)
    (hdb : (x == ("__debug__" : Str)) = false := by decide) (hpl : ((backTo pos (starEach [] Xc.env)).any (·.1) || (backToKw pos (keywordEach kws Xc.env)).any (·.1.isNone)) = false := by rfl) :
    L2N.PMk Xc (.Call (.Name x p) [] kws pos) (tMkK C sp g ks.length tNil tk) := by
  intro pins s σ H Q I h
  refine wpAny_Call_Name_kw (ld_glob I hg hm ?_ hdb)
  refine PySem.W.callWith_KW0 (h₀ := Xc.base) I.ok.mod.kin T.kC hall (thn (hk.run pos pins s σ H _ I h) ?_) hpl
  rintro ws s1 ⟨zs, H1, I1, rz, hzl, hz, q⟩
  have hn := I1.hok.fresh (Nat.le_succ s1.heap.objs.size)
  have q1 := q _ hn
  refine ⟨I1.kIn, ?_⟩
  rw [hks]
  refine mk_runK (us := []) (vs := []) T iC tI F1 hr hb hx I1 .nil rz hzl hz (Qr := fun _ H2 => ∃ (d : Addr) (fs : List (Str × V)), H2 (s1.heap.objs.size + 1) = some (exo (s1.heap.objs.size + 1) C (some d)) ∧ H2 d = some (exd d fs) ∧ H1 d = none ∧ Q (.ref C) (some d) (upd (L2.del H2 (s1.heap.objs.size + 1)) d (.xd fs))) q1 fun H2 s2 ce J hQ => ?_
  obtain ⟨d, fs, ea, ed, hd1, hq⟩ := hQ
  obtain ⟨v, H2', o2, b2, un2, ok2, _, _, rfl⟩ := ce
  obtain ⟨hp, g, dr, tk, os⟩ := s1
  obtain ⟨h2, g2, d2, t2, os2⟩ := s2
  obtain ⟨t0, Gh, J2, kG, ge, hoe, na⟩ := mk_end0 (d2 := d2) (t2 := t2) I1 (Nat.le_succ _) (fun b o e => Heap.get?_push_of_some _ (Heap.get?_push_of_some _ e)) un2 ok2 o2 b2 ea ed hd1
  exact ⟨hp.objs.size + 1, _, _, ⟨Gh, g2, d2, t2, os2⟩, _, .ref C, some d, rfl, J2, kG, ge, hoe, ⟨rfl, rfl, fun vs hv => by cases hv; rfl⟩, rfl, rfl, na, rfl, b2, raises_own T.exC T.tyC, hq⟩
end
/-! ### raise, by the classes' tables -/
section
variable {X : Cx} {W : WX} {nm f g : Str} {C fI : Addr} {fdI : FuncData} {e : Expr} {es : List Expr} {ta tk : TA} {p pos pos2 : Pos} {k : Nat} {kws : List Keyword} {ps ks : List Str} {o : {α : Type} → List α → List α → List α} {sp : Sp}
/-- raise C(e, ..), one field or two -/
theorem ps_raiseA (hc : X.calm = true) (tk : L2N.Takes X W) (T : OexC X.K C) (i : PySem.W.findIn X.K (.ref C) "__init__" = some (some (.ref fI))) (ti : PySem.W.typeIn X.K (.ref fI) = some (.type "function"))
    (F1 : FnOk X.prog X.w X.K X.mg X.base (L2N.CX X.prog X.w) k fI fdI ps sp) (hr : Room (k + 1) X.A) (hb : Binds X.K fdI ps []) (hg : Gl X nm) (hm : X.mg nm = some (.ref C)) (ha : PA X (e :: es) ta) (hdb : (nm == ("__debug__" : Str)) = false := by decide)
    (he : starEach (e :: es) X.env = (false, eval e X.env) :: starEach es X.env := by rfl) (hpl : (backTo pos (starEach es X.env)).any (·.1) = false := by rfl) :
    PS X (.Raise (some (.Call (.Name nm p) (e :: es) [] pos)) none pos2) (tRaiseO C sp W ta) :=
  L2N.ps_raise hc tk (pmk_newN T i ti F1 hr hb passE hg hm ha hdb he hpl)
theorem ps_raiseK0 (hc : X.calm = true) (tt : L2N.Takes X W) (T : OexC X.K C) (i : PySem.W.findIn X.K (.ref C) "__init__" = some (some (.ref fI))) (ti : PySem.W.typeIn X.K (.ref fI) = some (.type "function"))
    (F1 : FnOk X.prog X.w X.K X.mg X.base (L2N.CX X.prog X.w) k fI fdI ps sp) (hr : Room (k + 1) X.A) (hb : KwI X.K fdI ps ks o) (hg : Gl X nm) (hm : X.mg nm = some (.ref C)) (hk : PK X kws tk)
    (hall : (backToKw pos (keywordEach kws X.env)).all (·.1.isSome) = true := by rfl) (hks : (backToKw pos (keywordEach kws X.env)).filterMap (·.1) = ks := by rfl)
    (hdb : (nm == ("__debug__" : Str)) = false := by decide) (hpl : ((backTo pos (starEach [] X.env)).any (·.1) || (backToKw pos (keywordEach kws X.env)).any (·.1.isNone)) = false := by rfl) :
    PS X (.Raise (some (.Call (.Name nm p) [] kws pos)) none pos2) (tRaiseK C sp o ks.length W tNil tk) :=
  L2N.ps_raise hc tt (pmk_newK0 T i ti F1 hr hb passE hg hm hk hall hks hdb hpl)
end
end DL
namespace DL
open PySem PySem.Spec PyProof.Rows L2
section
variable {K : PySem.W.Frag} {ms : Ms} {P : Dat → Ms → Prop}
theorem intsRep2 {W : Wd} : ∀ {vs : List V} {is : List Int}, RepL K W vs (is.map Dat.int) → vs = is.map V.int
  | _, [], h => by cases h; rfl
  | _, i :: is, h => by cases h with | cons a b => cases a; rw [intsRep2 b]; rfl
/-- an int in a list of ints -/
theorem d2_inIs {i : Int} {is : List Int} {x : Dat} (s : SeqV ms x (is.map Dat.int)) (q : P (.bl (is.contains i)) ms) : D2 K (rInA K) (.int i) x ms P := fun W G H v w Q gd rx ry k => by
  cases rx
  obtain ⟨a, vs, rfl, hq, rl⟩ := seq_rep gd ry s
  rw [intsRep2 rl] at hq
  refine .inr ⟨a, _, rfl, hq, rfl, ?_, ?_⟩
  · rw [List.all_map]; exact List.all_eq_true.mpr fun _ _ => rfl
  · rw [if_neg Bool.false_ne_true]
    have e : inV (V.int i) (is.map V.int) = is.contains i := by
      unfold inV
      rw [List.any_map, List.contains_eq_any_beq]
      congr 1
      funext j
      show (j == i) = (i == j)
      exact Bool.beq_comm
    rw [e]
    exact k W _ _ H ms (Le.refl W) gd (.bl _) q
/-! ### != of lists and dicts that hold the same -/
def rNeB (K : PySem.W.Frag) : R2 := fun x y H Q => rNeA K x y H Q ∨ (rNeDA x y H Q ∨ rNeL K x y H Q)
theorem op_neB {X : Cx} (hu : X.A.units + 64 < cLine) : OpR X (compareOp .NotEq) (rNeB X.K) := orR (op_neA hu) (orR (op_ne_dictA (by omega)) (op_neL hu))
/-- what a value holds: a list's items, a dict's entries -/
def HasL (ms : Ms) (x : Dat) (xs : List Dat) : Prop := x = .lst xs ∨ ∃ k, x = .cell k ∧ ms[k]? = some (.lst xs)
def HasD (ms : Ms) (x : Dat) (xs : List (Key × Dat)) : Prop := x = .dct xs ∨ ∃ k, x = .cell k ∧ ms[k]? = some (.dct xs)
mutual
/-- equal in depth n -/
inductive EqD (ms : Ms) : Nat → Dat → Dat → Prop
  | int {n : Nat} (i : Int) : EqD ms (n + 1) (.int i) (.int i)
  | str {n : Nat} (z : Str) : EqD ms (n + 1) (.str z) (.str z)
  | lst {n : Nat} {x y : Dat} {xs ys : List Dat} : HasL ms x xs → HasL ms y ys → EqDs ms n xs ys → EqD ms (n + 1) x y
  | dct {n : Nat} {x y : Dat} {xs ys : List (Key × Dat)} : HasD ms x xs → HasD ms y ys → (xs.map (·.1)).Nodup → EqDk ms n xs ys → EqD ms (n + 1) x y
inductive EqDs (ms : Ms) : Nat → List Dat → List Dat → Prop
  | nil {n : Nat} : EqDs ms n [] []
  | cons {n : Nat} {x y : Dat} {xs ys : List Dat} : EqD ms n x y → EqDs ms n xs ys → EqDs ms n (x :: xs) (y :: ys)
inductive EqDk (ms : Ms) : Nat → List (Key × Dat) → List (Key × Dat) → Prop
  | nil {n : Nat} : EqDk ms n [] []
  | cons {n : Nat} {k : Key} {x y : Dat} {xs ys : List (Key × Dat)} : EqD ms n x y → EqDk ms n xs ys → EqDk ms n ((k, x) :: xs) ((k, y) :: ys)
end
theorem hasL_rep {W : Wd} {G H : Hp} {v : V} {x : Dat} {xs : List Dat} (g : Good K W G H ms) (r : Rep K W v x) (s : HasL ms x xs) : ∃ a vs, v = .ref a ∧ SqL K H a vs ∧ RepL K W vs xs := by
  rcases s with s | ⟨k, s, e⟩ <;> subst s
  · cases r with | lst e r => exact ⟨_, _, rfl, .inl (.inl (g.fz _ _ e)), r⟩
  · cases r with
    | cell e2 =>
      obtain ⟨vs, h1, h2⟩ := (show MoOk K W H _ (.lst xs) from g.cl _ _ _ e2 e)
      exact ⟨_, vs, rfl, SqL.of h1, h2⟩
theorem hasD_rep {W : Wd} {G H : Hp} {v : V} {x : Dat} {xs : List (Key × Dat)} (g : Good K W G H ms) (r : Rep K W v x) (s : HasD ms x xs) : ∃ a vs, v = .ref a ∧ H a = some (.dK vs) ∧ RepK K W vs xs := by
  rcases s with s | ⟨k, s, e⟩ <;> subst s
  · cases r with | dct e r => exact ⟨_, _, rfl, g.fz _ _ e, r⟩
  · cases r with
    | cell e2 =>
      obtain ⟨vs, h1, h2⟩ := (show MoOk K W H _ (.dct xs) from g.cl _ _ _ e2 e)
      exact ⟨_, vs, rfl, h1, h2⟩
theorem repK_keys {W : Wd} : ∀ {vs : List (Key × V)} {ds : List (Key × Dat)}, RepK K W vs ds → vs.map (·.1) = ds.map (·.1)
  | _, [], h => by cases h; rfl
  | _, (k, d) :: ds, h => by cases h with | cons a b => rw [List.map_cons, List.map_cons, repK_keys b]
theorem eqDk_keys : ∀ {n : Nat} {xs ys : List (Key × Dat)}, EqDk ms n xs ys → xs.map (·.1) = ys.map (·.1)
  | _, [], _, h => by cases h; rfl
  | _, (k, d) :: xs, _, h => by cases h with | cons a b => rw [List.map_cons, List.map_cons, eqDk_keys b]
/-- two tables of the same keys, their values related by place -/
theorem vals_at {E : V → V → Prop} : ∀ {ks ls : List (Key × V)}, ks.map (·.1) = ls.map (·.1) → (ks.map (·.1)).Nodup → Paired E (ks.map (·.2)) (ls.map (·.2)) → ∀ p ∈ ks, ∃ u, valV ls p.1 = some u ∧ E p.2 u
  | [], _, _, _, _, p, hp => nomatch hp
  | (k, x) :: ks, [], h, _, _, _, _ => by simp at h
  | (k, x) :: ks, (l, y) :: ls, h, nd, pr, p, hp => by
    rw [List.map_cons, List.map_cons] at h pr
    injection h with h1 h2
    have h1 : k = l := h1
    subst h1
    rw [List.map_cons, List.nodup_cons] at nd
    cases pr with
    | cons a b =>
      rcases List.mem_cons.mp hp with z | z
      · subst z
        exact ⟨y, valV_pos rfl, a⟩
      · obtain ⟨u, h3, h4⟩ := vals_at h2 nd.2 b p z
        refine ⟨u, ?_, h4⟩
        rw [valV_neg]
        · exact h3
        · exact fun z2 => nd.1 (by show k ∈ _; rw [show k = p.1 from z2]; exact List.mem_map_of_mem z)
mutual
theorem eqd_run {W : Wd} {G H : Hp} (g : Good K W G H ms) : ∀ {n : Nat} {x y : Dat} {v w : V}, EqD ms n x y → Rep K W v x → Rep K W w y → EqV K H n v w
  | _, _, _, _, _, .int i, r, r' => by cases r; cases r'; exact .inl ⟨rfl, rfl⟩
  | _, _, _, _, _, .str i, r, r' => by cases r; cases r'; exact .inl ⟨rfl, rfl⟩
  | _, _, _, _, _, .lst a b h, r, r' => by
    obtain ⟨p, vs, rfl, h1, h2⟩ := hasL_rep g r a
    obtain ⟨p', vs', rfl, h1', h2'⟩ := hasL_rep g r' b
    exact .inr (.inr (.inl ⟨p, p', vs, vs', rfl, rfl, h1, h1', eqds_run g h h2 h2'⟩))
  | _, _, _, _, _, .dct a b nd h, r, r' => by
    obtain ⟨p, vs, rfl, h1, h2⟩ := hasD_rep g r a
    obtain ⟨p', vs', rfl, h1', h2'⟩ := hasD_rep g r' b
    have e : vs.map (·.1) = vs'.map (·.1) := by rw [repK_keys h2, repK_keys h2', eqDk_keys h]
    refine .inr (.inr (.inr ⟨p, p', vs, vs', rfl, rfl, h1, h1', ?_, vals_at e (by rw [repK_keys h2]; exact nd) (eqdk_run g h h2 h2')⟩))
    have := congrArg List.length e
    simpa using this
theorem eqds_run {W : Wd} {G H : Hp} (g : Good K W G H ms) : ∀ {n : Nat} {xs ys : List Dat} {vs ws : List V}, EqDs ms n xs ys → RepL K W vs xs → RepL K W ws ys → Paired (EqV K H n) vs ws
  | _, _, _, _, _, .nil, r, r' => by cases r; cases r'; exact .nil
  | _, _, _, _, _, .cons a b, r, r' => by cases r with | cons r1 r2 => cases r' with | cons s1 s2 => exact .cons (eqd_run g a r1 s1) (eqds_run g b r2 s2)
theorem eqdk_run {W : Wd} {G H : Hp} (g : Good K W G H ms) : ∀ {n : Nat} {xs ys : List (Key × Dat)} {vs ws : List (Key × V)}, EqDk ms n xs ys → RepK K W vs xs → RepK K W ws ys → Paired (EqV K H n) (vs.map (·.2)) (ws.map (·.2))
  | _, _, _, _, _, .nil, r, r' => by cases r; cases r'; exact .nil
  | _, _, _, _, _, .cons a b, r, r' => by cases r with | cons r1 r2 => cases r' with | cons s1 s2 => exact .cons (eqd_run g a r1 s1) (eqdk_run g b r2 s2)
end
/-- two lists of equal items -/
theorem d2_neL {n : Nat} {x y : Dat} {xs ys : List Dat} (hn : n ≤ 60) (hx : HasL ms x xs) (hy : HasL ms y ys) (h : EqDs ms n xs ys) (q : P (.bl false) ms) : D2 K (rNeB K) x y ms P := fun W G H v w Q gd rx ry k => by
  obtain ⟨p, vs, rfl, h1, h2⟩ := hasL_rep gd rx hx
  obtain ⟨p', vs', rfl, h1', h2'⟩ := hasL_rep gd ry hy
  exact .inr (.inr ⟨n, p, p', vs, vs', hn, rfl, rfl, h1, h1', eqds_run gd h h2 h2', k W _ _ H ms (Le.refl W) gd (.bl _) q⟩)
/-- two dicts of equal plain values -/
theorem d2_neK {x y : Dat} {xs ys : List (Key × Dat)} (hx : HasD ms x xs) (hy : HasD ms y ys) (nd : (xs.map (·.1)).Nodup) (h : xs = ys) (hf : ∀ p ∈ xs, (∃ i, p.2 = .int i) ∨ ∃ z, p.2 = .str z) (q : P (.bl false) ms) : D2 K (rNeB K) x y ms P := fun W G H v w Q gd rx ry k => by
  subst h
  obtain ⟨p, vs, rfl, h1, h2⟩ := hasD_rep gd rx hx
  obtain ⟨p', vs', rfl, h1', h2'⟩ := hasD_rep gd ry hy
  have same : ∀ {xs : List (Key × Dat)} {vs vs' : List (Key × V)}, RepK K W vs xs → RepK K W vs' xs → (∀ p ∈ xs, (∃ i, p.2 = .int i) ∨ ∃ z, p.2 = .str z) → vs = vs' ∧ ∀ p ∈ vs, flatB p.2 = true := by
    intro xs
    induction xs with
    | nil => intro vs vs' a b _; cases a; cases b; exact ⟨rfl, fun _ h => nomatch h⟩
    | cons x xs ih =>
      intro vs vs' a b hf
      cases a with
      | cons a1 a2 => cases b with
        | cons b1 b2 =>
          obtain ⟨e, f⟩ := ih a2 b2 fun p hp => hf p (List.mem_cons_of_mem _ hp)
          subst e
          rcases hf _ List.mem_cons_self with ⟨i, hi⟩ | ⟨z, hz⟩
          · simp only at hi
            subst hi
            cases a1; cases b1
            exact ⟨rfl, fun p hp => by rcases List.mem_cons.mp hp with z | z; subst z; rfl; exact f p z⟩
          · simp only at hz
            subst hz
            cases a1; cases b1
            exact ⟨rfl, fun p hp => by rcases List.mem_cons.mp hp with z | z; subst z; rfl; exact f p z⟩
  obtain ⟨e, f⟩ := same h2 h2' hf
  subst e
  refine .inr (.inl ⟨p, p', vs, vs, rfl, rfl, h1, h1', rfl, fun e he => ⟨?_, f e he⟩, k W _ _ H ms (Le.refl W) gd (.bl _) q⟩)
  have pr : Paired (fun a b : V => a = b) (vs.map (·.2)) (vs.map (·.2)) := by
    generalize vs.map (·.2) = l
    induction l with
    | nil => exact .nil
    | cons a l ih => exact .cons rfl ih
  obtain ⟨u, h3, h4⟩ := vals_at (E := fun a b => a = b) rfl (by rw [repK_keys h2]; exact nd) pr e he
  rw [h4]; exact h3
/-! ### a dict that changes -/
theorem Good.toM {W : Wd} {G H : Hp} {p : Addr} {o : HO} {m : MO} (g : Good K W (upd G p o) H ms) (n : G p = none) (hm : MoOk K W H p m) : Good K ⟨W.ι ++ [p], W.F⟩ G H (ms ++ [m]) ∧ Le W ⟨W.ι ++ [p], W.F⟩ := by
  have nf : W.F p = none := g.gF p _ upd_same
  have np : p ∉ W.ι := fun h => by
    have := g.nG p h
    rw [upd_same] at this; cases this
  have l : Le W ⟨W.ι ++ [p], W.F⟩ := ⟨List.prefix_append _ _, Same.refl _⟩
  refine ⟨⟨g.fz, (same_new n).trans g.gd, by simp [g.ln], ?_, fun a h => ?_, fun a h => ?_, fun a v e => g.gF a v (by rw [upd_ne (ne_of_none e n)]; exact e), fun k a m' h1 h2 => ?_⟩, l⟩
  · show (W.ι ++ [p]).Nodup
    refine List.nodup_append.mpr ⟨g.nd, by simp, fun a ha b hb z => ?_⟩
    have : b = p := by simpa using hb
    subst this; subst z
    exact np ha
  · rcases List.mem_append.mp (show a ∈ W.ι ++ [p] from h) with h | h
    · exact g.nF a h
    · have : a = p := by simpa using h
      subst this
      exact nf
  · rcases List.mem_append.mp (show a ∈ W.ι ++ [p] from h) with h | h
    · have := g.nG a h
      rw [upd_ne (show a ≠ p from fun z => np (by rw [← z]; exact h))] at this
      exact this
    · have : a = p := by simpa using h
      subst this
      exact n
  · by_cases hk : k < W.ι.length
    · have h1' : W.ι[k]? = some a := by rw [← h1]; exact (List.getElem?_append_left hk).symm
      have h2' : ms[k]? = some m' := by rw [← h2]; exact (List.getElem?_append_left (by rw [← g.ln]; exact hk)).symm
      exact (g.cl k a m' h1' h2').mono l fun u e => e
    · have e1 : (W.ι ++ [p])[k]? = some a := h1
      rw [List.getElem?_append_right (by omega)] at e1
      rw [List.getElem?_append_right (by rw [← g.ln]; omega), ← g.ln] at h2
      have hk0 : k - W.ι.length = 0 := by
        cases q : k - W.ι.length with
        | zero => rfl
        | succ j => rw [q] at e1; simp at e1
      rw [hk0] at e1 h2
      cases e1; cases h2
      exact hm.mono l fun u e => e
section
variable {R : WX} {e : Ev} {X : XP} {ta ti tk tv : TE}
theorem de_disp1C (h : DE K R tk e ms (fun a m => ∃ z, a = .str z ∧ DE K R tv e m (fun b m2 => P (.cell m2.length) (m2 ++ [.dct [(.inr z, b)]])) X) X) : DE K R (tDisp [(tk, tv)]) e ms P X := fun W G σ H Q g s k x p hp => by
  have g1 := g.hold (o := .dK []) hp
  have gp : G p = none := g.gd.free hp
  refine h W (upd G p (.dK [])) σ (upd H p (.dK [])) _ g1 s (fun W1 v d H1 m1 l1 g2 r1 ⟨z, hz, h1⟩ => ?_) ?_
  · subst hz
    cases r1
    refine h1 W1 _ σ H1 _ g2 (s.mono l1) (fun W2 u d H2 m2 l2 g3 r2 q => ?_) ?_
    · refine ⟨g3.gd p _ upd_same, [(.inr z, u)], rfl, Nat.le_add_left 1 14, ?_⟩
      have g4 := g3.held (.dK [(.inr z, u)])
      obtain ⟨g5, l5⟩ := g4.toM (m := .dct [(.inr z, d)]) gp ⟨_, upd_same, .cons r2 .nil⟩
      exact k _ _ _ _ _ (l1.trans (l2.trans l5)) g5 (.cell (by show (W2.ι ++ [p])[m2.length]? = some p; rw [← g3.ln]; simp)) q
    · intro W' C dd fs ds H' ms' l' g' f r xx
      exact x W' C dd fs ds H' ms' (l1.trans l') (g'.weakG (same_new gp)) f r xx
  · intro W' C dd fs ds H' ms' l' g' f r xx
    exact x W' C dd fs ds H' ms' l' (g'.weakG (same_new gp)) f r xx
/-- {k: v, l: w} as a value -/
theorem de_disp2 {tk2 tv2 : TE} (h : DE K R tk e ms (fun a m => ∃ z, a = .str z ∧ DE K R tv e m (fun b m2 => DE K R tk2 e m2 (fun a2 m3 => ∃ z2, a2 = .str z2 ∧ z2 ≠ z ∧ DE K R tv2 e m3 (fun b2 m4 => P (.dct [(.inr z, b), (.inr z2, b2)]) m4) X) X) X) X) : DE K R (tDisp [(tk, tv), (tk2, tv2)]) e ms P X := fun W G σ H Q g s k x p hp => by
  have g1 := g.hold (o := .dK []) hp
  have gp : G p = none := g.gd.free hp
  have xx : ExC K W (upd G p (.dK [])) X (fun c d H' => R c d σ H') := by
    intro W' C dd fs ds H' ms' l' g' f r xx
    exact x W' C dd fs ds H' ms' l' (g'.weakG (same_new gp)) f r xx
  refine h W (upd G p (.dK [])) σ (upd H p (.dK [])) _ g1 s (fun W1 v d H1 m1 l1 g2 r1 ⟨z, hz, h1⟩ => ?_) xx
  subst hz
  cases r1
  refine h1 W1 _ σ H1 _ g2 (s.mono l1) (fun W2 u d H2 m2 l2 g3 r2 h2 => ?_) (xx.le l1)
  refine h2 W2 _ σ _ _ g3 (s.mono (l1.trans l2)) (fun W3 v3 d3 H3 m3 l3 g5 r3 ⟨z2, hz2, hne, h3⟩ => ?_) (xx.le (l1.trans l2))
  subst hz2
  cases r3
  refine h3 W3 _ σ H3 _ g5 (s.mono (l1.trans (l2.trans l3))) (fun W5 u5 d5 H5 m5 l5 g7 r5 q => ?_) (xx.le (l1.trans (l2.trans l3)))
  refine ⟨g7.gd p _ upd_same, [(.inr z, u), (.inr z2, u5)], rfl, Nat.le_add_left 2 13, ?_⟩
  have em : mergeK [] [((.inr z : Key), u), (.inr z2, u5)] = [(.inr z, u), (.inr z2, u5)] := by
    have h : ¬ ((Sum.inr z : Key) = .inr z2) := fun e => hne (Sum.inr.inj e).symm
    simp [mergeK, putK, h]
  rw [em]
  have g8 := g7.held (.dK [(.inr z, u), (.inr z2, u5)])
  obtain ⟨g9, l9⟩ := g8.frozen gp
  exact k _ _ _ _ _ (l1.trans (l2.trans (l3.trans (l5.trans l9)))) g9 (.dct upd_same (.cons (Rep.mono (l3.trans (l5.trans l9)) _ _ r2) (.cons (Rep.mono l9 _ _ r5) .nil))) q
/-- o[k] = d of a dict that changes, a new key -/
def PutTo (ms : Ms) (k : Nat) (i d : Dat) (Q : Ms → Prop) : Prop := ∃ z xs, i = .str z ∧ ms[k]? = some (.dct xs) ∧ (Sum.inr z : Key) ∉ xs.map (·.1) ∧ xs.length < 1000000 ∧ Q (ms.set k (.dct (xs ++ [(.inr z, d)])))
theorem repK_app {W : Wd} : ∀ {vs ws : List (Key × V)} {ds es : List (Key × Dat)}, RepK K W vs ds → RepK K W ws es → RepK K W (vs ++ ws) (ds ++ es)
  | _, _, [], _, h, r => by cases h; exact r
  | _, _, (_, d) :: ds, _, h, r => by cases h with | cons a b => exact .cons a (repK_app b r)
theorem repK_len {W : Wd} {vs : List (Key × V)} {ds : List (Key × Dat)} (h : RepK K W vs ds) : vs.length = ds.length := by
  have := congrArg List.length (repK_keys h)
  simpa using this
theorem dg_put {d : Dat} {vs : List Nat} {PE : Ev → Ms → Prop} (h : DE K (fun _ _ _ _ => False) ta e ms (fun o m => ∃ k, o = .cell k ∧ DE K (fun _ _ _ _ => False) ti e m (fun i m2 => PutTo m2 k i d (PE e)) (fun _ _ _ => False)) (fun _ _ _ => False)) :
    DG K (gSub ta ti rSetD) d e ms vs PE := fun W G σ H v Q g s r k => by
  refine h W G σ H _ g s (fun W1 o do' H1 m1 l1 g1 r1 ⟨kk, hk, h1⟩ => ?_) (fun _ _ _ _ _ _ _ _ _ _ _ z => z.elim)
  subst hk
  refine h1 W1 G σ H1 _ g1 (s.mono l1) (fun W2 i di H2 m2 l2 g2 r2 ⟨z, xs, hz, hm, hj, hlen, q⟩ => ?_) (fun _ _ _ _ _ _ _ _ _ _ _ z => z.elim)
  subst hz
  cases r2
  have rc := Rep.mono l2 _ _ r1
  cases rc with
  | cell e2 =>
    obtain ⟨us, e3, rl⟩ := (show MoOk K W2 H2 _ (.dct xs) from g2.cl _ _ _ e2 hm)
    have ek : putK us (.inr z : Key) v = us ++ [(.inr z, v)] := by
      unfold putK
      rw [if_neg]
      intro hh
      obtain ⟨p, hp, hp2⟩ := List.any_eq_true.mp hh
      refine hj ?_
      rw [← repK_keys rl]
      exact List.mem_map.mpr ⟨p, hp, by simpa using hp2⟩
    refine ⟨_, _, rfl, DPut.k (k := (.inr z : Key)) (v := v) e3 (by rw [repK_len rl]; exact Nat.lt_of_lt_of_le hlen (by decide)), ?_⟩
    rw [ek]
    refine k W2 σ e _ _ (l1.trans l2) (g2.setC e2 (o := .dK (us ++ [(.inr z, v)])) (m := .dct (xs ++ [(.inr z, d)])) ⟨_, upd_same, repK_app rl (.cons (Rep.mono (l1.trans l2) _ _ r) .nil)⟩) (s.mono (l1.trans l2)) ⟨rfl, fun _ _ => rfl⟩ q
end
end
end DL
namespace DL
open PySem PySem.Spec PyProof.Rows L2
/-! ### repr of a dict of plain values (no dict among them) -/
theorem kv_two {prog : Program} {w : World} {h : Heap} : ∀ {kvs : List (Str × V)} {rs : List (Key × Value)} {es : List DictEntry}, KV (kvs.map fun p => ((.inr p.1 : Key), p.2)) rs → Pairs (mixKind prog w) es rs →
    ReadsAll h (es.map (·.key)) (kvs.map fun p => PyData.str p.1) [] ∧ Vals (kvs.map (·.2)) (es.map (·.val))
  | [], _, _, r, q => by cases r; cases q; exact ⟨.nil, .nil⟩
  | p :: kvs, _, _, r, q => by
    cases r with
    | cons r1 r2 =>
      cases q with
      | cons q1 q2 q3 =>
        obtain ⟨i1, i2⟩ := kv_two r2 q3
        obtain ⟨e1, e2⟩ := r1
        rw [← e1] at q1
        have q1' : keyIs (.inr p.1) _ = true := q1
        rcases keyIs_shape q1' with ⟨i, t, z, _⟩ | ⟨y, t, z, ez⟩
        · cases z
        · cases z
          refine ⟨?_, ?_⟩
          · rw [List.map_cons, List.map_cons, ez]; exact ReadsAll.cons (as := []) (.str _ _) i1
          · rw [List.map_cons, List.map_cons, q2]; exact .cons e2 i2
def strsD (ks : List Str) : List PyData := ks.map PyData.str
theorem strs_show : ∀ ks : List Str, PyData.showableAll (strsD ks) = true ∧ PyData.hasDictAll (strsD ks) = false ∧ PyData.depthAll (strsD ks) = 0
  | [] => ⟨rfl, rfl, rfl⟩
  | k :: ks => by
    obtain ⟨a, b, c⟩ := strs_show ks
    refine ⟨?_, ?_, ?_⟩
    · show (true && PyData.showableAll (strsD ks)) = true; rw [a]; rfl
    · show (false || PyData.hasDictAll (strsD ks)) = false; rw [b]; rfl
    · show max 0 (PyData.depthAll (strsD ks)) = 0; rw [c]; rfl
theorem kv_depth : ∀ kvs : List (PyData × PyData), PyData.depthKv kvs ≤ max (PyData.depthAll (kvs.map (·.1))) (PyData.depthAll (kvs.map (·.2)))
  | [] => by simp [PyData.depthKv]
  | p :: kvs => by
    have := kv_depth kvs
    simp only [List.map_cons, PyData.depthKv, PyData.depthAll]
    omega
section
variable {prog : Program} {w : World} {h0 : Heap} {a : Addr}
theorem shows_dict1 {o : Obj} {es : Array DictEntry} {n : Nat} {kvs : List (PyData × PyData)} {as1 bs1 : List Addr} (h1 : h0.get? a = some o) (h2 : o.cls = .type "dict") (h3 : o.data = .dict es n)
    (h4 : ReadsAll h0 (es.toList.map (·.key)) (kvs.map (·.1)) as1) (h5 : ReadsAll h0 (es.toList.map (·.val)) (kvs.map (·.2)) bs1) (s1 : PyData.showableAll (kvs.map (·.1)) = true) (s2 : PyData.showableAll (kvs.map (·.2)) = true)
    (d1 : PyData.hasDictAll (kvs.map (·.1)) = false) (d2 : PyData.hasDictAll (kvs.map (·.2)) = false) (hy : (a == sysModules) = false) (hz : (dictText (PyData.shownKv kvs)).length ≤ sizeLine) :
    ShowsBy prog w h0 a (.dict kvs) "dict" "dict.__repr__" := by
  have no : ∀ {b : Bool} {P : Prop}, b = false → b = true → P := fun e z => by rw [e] at z; cases z
  obtain ⟨c1, m1, k1⟩ := ReprAllK.of_readsAll (prog := prog) (w := w) h4 s1 (fun z => no d1 z) fun t ht => by
    obtain ⟨p, hp, hl⟩ := PyData.shownKv_key_le kvs t ht
    exact Nat.le_trans hl (Nat.le_trans (dictText_mem_le hp) hz)
  obtain ⟨c2, m2, k2⟩ := ReprAllK.of_readsAll (prog := prog) (w := w) h5 s2 (fun z => no d2 z) fun t ht => by
    obtain ⟨p, hp, hl⟩ := PyData.shownKv_val_le kvs t ht
    exact Nat.le_trans hl (Nat.le_trans (dictText_mem_le hp) hz)
  have mm : ReadAtMost h0 (PyData.depthKv kvs) (c1 ++ c2) := (m1.mono (PyData.depthAll_keys_le kvs)).append (m2.mono (PyData.depthAll_vals_le kvs))
  have nin : a ∉ c1 ++ c2 := not_mem_of_deeper (.dict h1 h2 h3 h4 h5) (by simp only [PyData.depth]; omega) mm
  refine ⟨F.slot_dict_repr, F.slot_dict_str, F.slot_dict_format, fun s hk => ⟨o, hk _ _ h1, h2⟩, fun A E s Q hg hu hk hQ => ?_⟩
  simp only [PyData.depth] at hu
  simp only [PyData.shown, PyData.shownKv_eq] at hQ
  have kk := ReprEntriesK.of_two es.toList _ _ (k1.more_le (fun b hb => List.mem_append_left c2 hb) (PyData.depthAll_keys_le kvs)) (k2.more_le (fun b hb => List.mem_append_right c1 hb) (PyData.depthAll_vals_le kvs))
  exact call_dict_reprK h1 h2 h3 hy nin kk hg (fun b _ => Clear.nil b) hu hk hQ (by rw [← PyData.shownKv_eq]; exact hz)
end
/-- a dict's plain data -/
def dictD (ks : List Str) (ps : List PyData) : PyData := .dict ((strsD ks).zip ps)
def rReprK (K : PySem.W.Frag) : List V → Hp → VK → Prop := fun xs H Q => ∃ (a : Addr) (kvs : List (Str × V)) (ps : List PyData), xs = [.ref a] ∧ H a = some (.dK (kvs.map fun p => (.inr p.1, p.2))) ∧ DpAll K H (kvs.map (·.2)) ps ∧
  PyData.showableAll ps = true ∧ PyData.hasDictAll ps = false ∧ PyData.depthAll ps ≤ 40 ∧ (dictD (kvs.map (·.1)) ps).shown.length ≤ sizeLine ∧ Q (.str (dictD (kvs.map (·.1)) ps).shown) H
def rReprX (K : PySem.W.Frag) : List V → Hp → VK → Prop := fun xs H Q => rRepr K xs H Q ∨ rReprK K xs H Q
section
variable {Xc : Cx}
theorem dpAll_len {K : PySem.W.Frag} {H : Hp} : ∀ {vs : List V} {ps : List PyData}, DpAll K H vs ps → vs.length = ps.length
  | _, [], h => by cases h; rfl
  | _, p :: ps, h => by cases h with | cons a b => simp [dpAll_len b]
theorem call_reprK (hq : Quiet Xc.A) (hu : Xc.A.units + 64 < cLine) : CallR Xc (.builtin "repr") (rReprK Xc.K) := by
  rintro pins s σ H xs us Q I r ⟨a, kvs, ps, rfl, hH, hd, hs, hn, dp, hl, q⟩
  cases r with
  | cons r1 rr =>
    cases rr; cases r1
    obtain ⟨_, hsys, vs, hkv, o, es, ep, h1, h2, h3, _, h5, _⟩ := dk_of I.hok hH
    obtain ⟨q1, q2⟩ := kv_two (h := s.heap) hkv h5
    obtain ⟨bs, rd⟩ := Dp.readsAll I ps _ _ hd q2
    have hlen : (kvs.map (·.1)).length = ps.length := by rw [← dpAll_len hd]; simp
    have e1 : ((strsD (kvs.map (·.1))).zip ps).map (·.1) = strsD (kvs.map (·.1)) := by
      rw [List.map_fst_zip]; unfold strsD; rw [List.length_map]; omega
    have e2 : ((strsD (kvs.map (·.1))).zip ps).map (·.2) = ps := by
      rw [List.map_snd_zip]; unfold strsD; rw [List.length_map]; omega
    obtain ⟨t1, t2, t3⟩ := strs_show (kvs.map (·.1))
    have q1' : ReadsAll s.heap (es.toList.map (·.key)) (strsD (kvs.map (·.1))) [] := by unfold strsD; rw [List.map_map]; exact q1
    have S : ShowsBy Xc.prog Xc.w s.heap a (dictD (kvs.map (·.1)) ps) "dict" "dict.__repr__" :=
      shows_dict1 h1 h2.1 h3 (by rw [e1]; exact q1') (by rw [e2]; exact rd) (by rw [e1]; exact t1) (by rw [e2]; exact hs) (by rw [e1]; exact t2) (by rw [e2]; exact hn) hsys (by simpa only [dictD, PyData.shown] using hl)
    have dd : (dictD (kvs.map (·.1)) ps).depth ≤ 41 := by
      have := kv_depth ((strsD (kvs.map (·.1))).zip ps)
      rw [e1, e2, t3] at this
      simp only [dictD, PyData.depth]
      omega
    refine call_repr_slot (by omega) (S.typeIs s fun _ _ e => e) S.slotRepr (S.call Xc.A.in1 _ s _ hq.g (by show Xc.A.units + 1 + _ < cLine; omega) (fun _ _ e => e) fun h' u tk hk => ⟨_, _, rfl, ?_⟩)
    exact ⟨.str _, H, I.kept (t' := tk) hk, ⟨u, rfl⟩, q⟩
theorem call_reprX (hq : Quiet Xc.A) (hu : Xc.A.units + 64 < cLine) : CallR Xc (.builtin "repr") (rReprX Xc.K) := orC (call_repr hq hu) (call_reprK hq hu)
end
section
variable {K : PySem.W.Frag} {ms : Ms} {P : Dat → Ms → Prop} {a D dd C : Addr} {fs : List (Str × Dat)} {b : Bool}
theorem dr_reprX {d : Dat} {p : PyData} (h : PyV ms d p) (s : Shows p) (q : P (.str p.shown) ms) : DR K (rReprX K) [d] ms P := fun W G H vs Q g r k => .inl (dr_repr h s q W G H vs Q g r k)
/-- a dict whose items are plain -/
inductive PyK : List (Key × Dat) → List Str → List PyData → Prop
  | nil : PyK [] [] []
  | cons {z : Str} {d : Dat} {p : PyData} {xs : List (Key × Dat)} {ks : List Str} {ps : List PyData} : PyD d p → PyK xs ks ps → PyK ((.inr z, d) :: xs) (z :: ks) (p :: ps)
theorem pyK_rep {W : Wd} {H : Hp} (s : Same W.F H) : ∀ {xs : List (Key × Dat)} {ks : List Str} {ps : List PyData} {vs : List (Key × V)}, PyK xs ks ps → RepK K W vs xs → ∃ kvs : List (Str × V), vs = kvs.map (fun p => (.inr p.1, p.2)) ∧ kvs.map (·.1) = ks ∧ DpAll K H (kvs.map (·.2)) ps
  | _, _, _, _, .nil, r => by cases r; exact ⟨[], rfl, rfl, .nil⟩
  | _, _, _, _, .cons a b, r => by
    cases r with
    | cons r1 r2 =>
      obtain ⟨kvs, e1, e2, e3⟩ := pyK_rep s b r2
      exact ⟨(_, _) :: kvs, by rw [e1]; rfl, by rw [List.map_cons, e2], .cons (dp_of s a _ r1) e3⟩
theorem dr_reprKx {xs : List (Key × Dat)} {ks : List Str} {ps : List PyData} (h : PyK xs ks ps) (s : (PyData.showableAll ps && !PyData.hasDictAll ps && decide (PyData.depthAll ps ≤ 40) && decide ((dictD ks ps).shown.length ≤ 1000000)) = true) (q : P (.str (dictD ks ps).shown) ms) : DR K (rReprX K) [.dct xs] ms P := fun W G H vs Q g r k => by
  simp only [Bool.and_eq_true, Bool.not_eq_true', decide_eq_true_eq] at s
  obtain ⟨⟨⟨s1, s2⟩, s3⟩, s4⟩ := s
  cases r with
  | cons r1 rr =>
    cases rr
    cases r1 with
    | dct e r2 =>
      obtain ⟨kvs, e1, e2, e3⟩ := pyK_rep g.fz h r2
      rw [e1] at e
      refine .inr ⟨_, kvs, ps, rfl, g.fz _ _ e, e3, s1, s2, s3, ?_, ?_⟩
      · rw [e2]; exact size_of s4
      · rw [e2]; exact k W _ _ H ms (Le.refl W) g (.str _) q
/-! ### isinstance where the handled error may be the value -/
theorem dr_W {ds : List Dat} (h : DR K (rIsiZ a D dd K) ds ms P) : DR K (rIsiW a D dd K) ds ms P := fun W G H vs Q gd r k => .inl (h W G H vs Q gd r k)
theorem dr_isiWh (hT : ExT K D) (hb : PySem.W.kitOne K (.ref D) (.ref C) = some b) (q : P (.bl b) ms) : DR K (rIsiW a D dd K) [.hot a dd D fs, .ref C] ms P := dr_W (dr_isiH hT hb q)
theorem dr_isiWt {n : String} (hT : ExT K D) (hb : PySem.W.kitOne K (.ref D) (.type n) = some b) (q : P (.bl b) ms) : DR K (rIsiW a D dd K) [.hot a dd D fs, .ty n] ms P := dr_W (dr_isiHt hT hb q)
theorem dr_XT {ds : List Dat} (h : DR K (rIsiX K) ds ms P) : DR K (rIsiXT K) ds ms P := fun W G H vs Q gd r k => .inl (h W G H vs Q gd r k)
theorem kit2 {T A B : Value} {x y : Bool} (h : PySem.W.kitOne K T A = some x) (h' : PySem.W.kitOne K T B = some y) : PySem.W.kitAny K T [A, B] = some (x || y) := by
  unfold PySem.W.kitAny
  rw [h]
  cases x with
  | true => rfl
  | false =>
    show PySem.W.kitAny K T [B] = _
    unfold PySem.W.kitAny
    rw [h']
    cases y <;> rfl
end
end DL
namespace DL
open PySem PySem.Spec PyProof.Rows L2
/-! ### error classes over one base (itself over ValueError): what follows from their objects -/
def bmL (L : Addr) : List Value := [.ref L, .type "ValueError", .type "Exception", .type "BaseException", .type "object"]
/-- an error class, its mro and kind -/
structure EB (K : PySem.W.Frag) (L C : Addr) : Prop where
  t : ExT K C
  mro : ∀ b, PySem.W.mroIn K C b = some ((Value.ref C :: bmL L).contains b)
  cs : PySem.W.isClsIn K C = true
  ty : PySem.W.typeIn K (.ref C) = some (.type "type")
section
variable {K : PySem.W.Frag} {C D L N : Addr} {nm q : Str} {bs : List Value} {sn : List Str} {sub : List Value} {ab : Bool} {col : Option Bool} {dd : Option Addr} {x0 x1 x2 x3 x5 : Option Value}
theorem one_self {v : Value} : PySem.W.kitOne K v v = some true := by
  unfold PySem.W.kitOne
  rw [if_pos (by simp)]
theorem one_rt {t : String} {b : Bool} (hm : PySem.W.kitMeta t = true) (h : PySem.W.subIn K (.ref C) (.type t) = some b) : PySem.W.kitOne K (.ref C) (.type t) = some b := by
  unfold PySem.W.kitOne
  rw [if_neg (by simp)]
  show (if PySem.W.kitMeta t = true then _ else _) = _
  rw [if_pos hm, h]
theorem cls_rule {v : Value} {b : Bool} (h1 : PySem.W.isClsIn K C = true) (h2 : PySem.W.typeIn K (.ref C) = some (.type "type")) (h : PySem.W.subIn K v (.ref C) = some b) : PySem.W.kitCls K v (.ref C) = some b := by
  have h1' : (PySem.W.clsIn K C).isSome = true := h1
  show (if ((PySem.W.clsIn K C).isSome && PySem.W.typeIn K (.ref C) == some (.type "type")) = true then _ else _) = _
  rw [if_pos (by rw [h1', h2]; rfl), h]
theorem one_of {v : Value} {b : Bool} (hn : (v == Value.ref C) = false) (h1 : PySem.W.isClsIn K C = true) (h2 : PySem.W.typeIn K (.ref C) = some (.type "type")) (h : PySem.W.subIn K v (.ref C) = some b) : PySem.W.kitOne K v (.ref C) = some b := by
  unfold PySem.W.kitOne
  rw [if_neg (by rw [hn]; simp)]
  exact cls_rule h1 h2 h
theorem mro_of (hX : K.lookup C = some (excClassObj nm q C N bs (bmL L) true sn sub ab col dd x0 x1 x2 x3 x5 "ValueError.__new__")) (b : Value) : PySem.W.mroIn K C b = some ((Value.ref C :: bmL L).contains b) := by
  unfold PySem.W.mroIn PySem.W.clsIn
  rw [hX]
  rfl
theorem no_ref (C : Addr) : ∀ t ∈ (["NoneType", "bool", "int", "str", "list", "tuple", "dict"] : List String), PySem.W.subIn K (.type t) (.ref C) = some false := by
  have h : ∀ t ∈ (["NoneType", "bool", "int", "str", "list", "tuple", "dict"] : List String), ∃ l : List String, fastBuiltinMro t = some (l.map .type) := by
    intro t ht
    unfold fastBuiltinMro
    have h2 : ∀ t ∈ (["NoneType", "bool", "int", "str", "list", "tuple", "dict"] : List String), (fastFind? t).isSome = true := by decide +kernel
    obtain ⟨m, hm⟩ := Option.isSome_iff_exists.mp (h2 t ht)
    exact ⟨m.mro, by rw [hm]; rfl⟩
  intro t ht
  obtain ⟨l, hl⟩ := h t ht
  show (fastBuiltinMro t).map (fun m => m.contains (Value.ref C)) = some false
  rw [hl]
  refine congrArg some ?_
  induction l with
  | nil => rfl
  | cons x l ih =>
    have e : (Value.ref C == Value.type x) = false := by simp
    simp
/-- all from the class's object and what its names are found to be -/
theorem eb_mk (hX : K.lookup C = some (excClassObj nm q C N bs (bmL L) true sn sub ab col dd x0 x1 x2 x3 x5 "ValueError.__new__")) (eS : PySem.W.findIn K (.ref C) "__setattr__" = some (some (.builtin "object.__setattr__"))) (eK : PySem.W.keepIn K (.ref C) = true)
    (ega : PySem.W.findIn K (.ref C) "__getattribute__" = some (some (.builtin "BaseException.__getattribute__"))) (egg : PySem.W.findIn K (.ref C) "__getattr__" = some none) (ecl : PySem.W.findIn K (.ref C) "__class__" = some (some (.builtin "object.__class__")))
    (csp : PySem.W.specialIn K (.builtin "object.__class__") "__get__" = some (some (.builtin "getset_descriptor.__get__"))) (ctk : PySem.W.takesIn K (.builtin "object.__class__") = some true) : EB K L C := by
  have mro := mro_of hX
  have tyC : PySem.W.typeIn K (.ref C) = some (.type "type") := by
    show (K.lookup C).map (·.cls) = _
    rw [hX]; rfl
  have csC : PySem.W.isClsIn K C = true := by
    unfold PySem.W.isClsIn PySem.W.clsIn
    rw [hX]; rfl
  have hd : PySem.W.hasDictIn K C = true := by
    unfold PySem.W.hasDictIn PySem.W.clsIn
    rw [hX]; rfl
  refine ⟨⟨⟨⟨_, _, _, _, _, _, _, _, _, _, _, _, _, _, _, hX, by rfl⟩, eS, ?_, tyC, eK⟩, ega, egg, hd, ecl, ?_, csp, ctk, fun n hn => ?_⟩, mro, csC, tyC⟩
  · show PySem.W.mroIn K C (.type "BaseException") = some true
    rw [mro]; refine congrArg some ?_; simp [bmL]
  · rw [mro]; refine congrArg some ?_; simp [bmL]
  · have hk : ∀ n ∈ (["str", "tuple", "list", "int", "bool", "dict"] : List String), PySem.W.kitMeta n = true := by decide +kernel
    refine one_rt (hk n hn) ?_
    show PySem.W.mroIn K C (.type n) = some false
    rw [mro]
    refine congrArg some ?_
    simp only [List.mem_cons, List.not_mem_nil, or_false] at hn
    rcases hn with h | h | h | h | h | h <;> subst h <;> simp [bmL]
/-- the base itself -/
structure EL (K : PySem.W.Frag) (L : Addr) : Prop where
  cs : PySem.W.isClsIn K L = true
  ty : PySem.W.typeIn K (.ref L) = some (.type "type")
  ex : PySem.W.subIn K (.ref L) (.type "BaseException") = some true
theorem EB.one (h : EB K L D) (h' : EB K L C) (n : C ≠ L) : PySem.W.kitOne K (.ref D) (.ref C) = some (decide (D = C)) := by
  by_cases e : D = C
  · subst e
    rw [decide_eq_true rfl]
    exact one_self
  · rw [decide_eq_false e]
    refine one_of (by simp [e]) h'.cs h'.ty ?_
    show PySem.W.mroIn K D (.ref C) = _
    rw [h.mro]
    refine congrArg some ?_
    simp [bmL, n]
    exact fun z => e z.symm
theorem EB.base (h : EB K L D) (l : EL K L) (n : D ≠ L) : PySem.W.kitOne K (.ref D) (.ref L) = some true := by
  refine one_of (by simp [n]) l.cs l.ty ?_
  show PySem.W.mroIn K D (.ref L) = _
  rw [h.mro]
  refine congrArg some ?_
  simp [bmL]
theorem EB.ve (h : EB K L D) : PySem.W.kitOne K (.ref D) (.type "ValueError") = some true := by
  refine one_rt (by decide +kernel) ?_
  show PySem.W.mroIn K D (.type "ValueError") = _
  rw [h.mro]
  refine congrArg some ?_
  simp [bmL]
theorem EB.exm (h : EB K L D) (l : EL K L) : PySem.W.exmOne K (.ref D) (.ref L) = some true := by
  unfold PySem.W.exmOne
  rw [if_pos (by rw [l.ex]; rfl)]
  refine cls_rule l.cs l.ty ?_
  show PySem.W.mroIn K D (.ref L) = _
  rw [h.mro]
  refine congrArg some ?_
  simp [bmL]
theorem none_of (cs : PySem.W.isClsIn K C = true) (ty : PySem.W.typeIn K (.ref C) = some (.type "type")) : ∀ t ∈ (["NoneType", "bool", "int", "str", "list", "tuple", "dict"] : List String), PySem.W.kitOne K (.type t) (.ref C) = some false :=
  fun t ht => one_of (by simp) cs ty (no_ref C t ht)
/-! ### makers -/
theorem len2 {α : Type} : ∀ {l : List α}, l.length = 2 → ∃ a b, l = [a, b]
  | [], h => by simp at h
  | [_], h => by simp at h
  | [a, b], _ => ⟨a, b, rfl⟩
  | _ :: _ :: _ :: _, h => by simp at h
theorem kwi1 {x qual f : Str} {st : Stmt} {I : Addr} {fd : FuncData} (F : Fun K x qual st I fd)
    (h : ∀ (kV doc pm : Value) (an : Option Addr) (cdv ct : Value) (a u : Value), bindArgs (PySem.W.fnOf x qual (defArgs st) (defBody st) (defScope st) .none kV doc pm an cdv ct) ⟨[a], [(f, u)]⟩ = pure [(Str.ofString "self", a), (f, u)]) : KwI K fd ["self", f] [f] gApp := by
  obtain ⟨a, b, kV, c, pm, an, cdv, ct, sl, e, lk, cd⟩ := F.ex
  subst e
  refine ⟨fun s a us ws _ hw hl => ?_, fun r1 r2 => r1.append r2⟩
  obtain ⟨w, rfl⟩ := List.length_eq_one_iff.mp hw
  have hu : us = [] := List.eq_nil_of_length_eq_zero (by simp only [gApp, List.length_append, List.length_cons, List.length_nil] at hl; omega)
  subst hu
  exact .of_eq (h kV c pm an cdv ct a w)
/-- two fields, both named: in their order, or turned about; the second alone named -/
theorem kwi2 {x qual f g : Str} {st : Stmt} {I : Addr} {fd : FuncData} (F : Fun K x qual st I fd)
    (h : ∀ (kV doc pm : Value) (an : Option Addr) (cdv ct : Value) (a u v : Value), bindArgs (PySem.W.fnOf x qual (defArgs st) (defBody st) (defScope st) .none kV doc pm an cdv ct) ⟨[a], [(f, u), (g, v)]⟩ = pure [(Str.ofString "self", a), (f, u), (g, v)]) : KwI K fd ["self", f, g] [f, g] gApp := by
  obtain ⟨a, b, kV, c, pm, an, cdv, ct, sl, e, lk, cd⟩ := F.ex
  subst e
  refine ⟨fun s a us ws _ hw hl => ?_, fun r1 r2 => r1.append r2⟩
  obtain ⟨u, w, rfl⟩ := len2 hw
  have hu : us = [] := List.eq_nil_of_length_eq_zero (by simp only [gApp, List.length_append, List.length_cons, List.length_nil] at hl; omega)
  subst hu
  exact .of_eq (h kV c pm an cdv ct a u w)
theorem kwi2r {x qual f g : Str} {st : Stmt} {I : Addr} {fd : FuncData} (F : Fun K x qual st I fd)
    (h : ∀ (kV doc pm : Value) (an : Option Addr) (cdv ct : Value) (a u v : Value), bindArgs (PySem.W.fnOf x qual (defArgs st) (defBody st) (defScope st) .none kV doc pm an cdv ct) ⟨[a], [(g, v), (f, u)]⟩ = pure [(Str.ofString "self", a), (f, u), (g, v)]) : KwI K fd ["self", f, g] [g, f] gRev := by
  obtain ⟨a, b, kV, c, pm, an, cdv, ct, sl, e, lk, cd⟩ := F.ex
  subst e
  refine ⟨fun s a us ws _ hw hl => ?_, fun r1 r2 => r1.append (rel_rev r2)⟩
  obtain ⟨u, w, rfl⟩ := len2 hw
  have hu : us = [] := List.eq_nil_of_length_eq_zero (by simp only [gRev, List.length_append, List.length_reverse, List.length_cons, List.length_nil] at hl; omega)
  subst hu
  exact .of_eq (h kV c pm an cdv ct a w u)
theorem kwi2p {x qual f g : Str} {st : Stmt} {I : Addr} {fd : FuncData} (F : Fun K x qual st I fd)
    (h : ∀ (kV doc pm : Value) (an : Option Addr) (cdv ct : Value) (a u v : Value), bindArgs (PySem.W.fnOf x qual (defArgs st) (defBody st) (defScope st) .none kV doc pm an cdv ct) ⟨[a, u], [(g, v)]⟩ = pure [(Str.ofString "self", a), (f, u), (g, v)]) : KwI K fd ["self", f, g] [g] gApp := by
  obtain ⟨a, b, kV, c, pm, an, cdv, ct, sl, e, lk, cd⟩ := F.ex
  subst e
  refine ⟨fun s a us ws _ hw hl => ?_, fun r1 r2 => r1.append r2⟩
  obtain ⟨w, rfl⟩ := List.length_eq_one_iff.mp hw
  obtain ⟨u, rfl⟩ := List.length_eq_one_iff.mp (show us.length = 1 by simp only [gApp, List.length_append, List.length_cons, List.length_nil] at hl; omega)
  exact .of_eq (h kV c pm an cdv ct a u w)
end
section
variable {P : Program} {w : World} {K : PySem.W.Frag} {mg : Str → Option Value} {base : Heap}
theorem okN {x qual : Str} {st : Stmt} {f : Addr} {fd : FuncData} {N ps : List Str} {k : Nat} {sp : Sp} (F : Fun K x qual st f fd) (S : FnScope N ps (defScope st)) (hlen : ∀ vs H Q E, sp vs H Q E → vs.length = ps.length)
    (hb : ∀ (cdv : Value) (Ar : Around) (outer : List Env) (s : Shared) (H : Hp) (vs : List V) (Q : VK) (E : XK), Room k (Ar.deeper (envOfC qual (defScope st) s.heap.objs.size f cdv)) → sp vs H Q E →
      ∃ t, PSs (cxOf (L2N.CX P w) P w K mg base N qual (defScope st) f cdv Ar outer s H E) (defBody st) t ∧ t { nx := fun _ H' => Q .non H', rt := Q } (L2.start N vs) H) : FnOk P w K mg base (L2N.CX P w) (k + 1) f fd ps sp := by
  obtain ⟨a, b, kV, c, pm, an, cdv, ct, sl, e, lk, cd⟩ := F.ex
  subst e
  exact fn_of lk cd S hlen fun Ar outer s H vs Q E r p => hb cdv Ar outer s H vs Q E r p
/-- an error class with its maker, wherever it is called -/
def E1 (P : Program) (w : World) (K : PySem.W.Frag) (mg : Str → Option Value) (L : Addr) (nm f : Str) (C : Addr) : Prop :=
  EB K L C ∧ ∃ (I : Addr) (fd : FuncData), ErrT K mg nm f C I fd ∧ ∀ base, FnOk P w K mg base (L2N.CX P w) 1 I fd ["self", f] (spIni1 K f)
def E2 (P : Program) (w : World) (K : PySem.W.Frag) (mg : Str → Option Value) (L : Addr) (nm f g : Str) (C : Addr) : Prop :=
  EB K L C ∧ ∃ (I : Addr) (fd : FuncData), ErrT2 K mg nm f g C I fd ∧ ∀ base, FnOk P w K mg base (L2N.CX P w) 1 I fd ["self", f, g] (spIni2 K f g)
end
end DL
namespace K00
open PySem PySem.Spec PyProof.Rows L2 DL
local macro_rules | `(tactic| walk_at "hyp") => `(tactic| (first
  | (simp only [Bool.not_eq_true', Bool.not_eq_false', decide_eq_true_eq, decide_eq_false_iff_not, Bool.or_eq_true, Bool.and_eq_true, Bool.or_eq_false_iff, Bool.not_true, Bool.not_false, Bool.and_eq_false_iff] at *)
  | skip))
local macro_rules | `(tactic| walk_at "d1") => `(tactic| first
  | with_reducible refine ds_seq ?_
  | with_reducible refine ds_if ?_
  | with_reducible refine ds_ret ?_
  | with_reducible refine ds_set ?_
  | with_reducible refine ds_drop ?_
  | with_reducible refine ds_par ?_
  | with_reducible refine ds_par3 ?_
  | with_reducible refine ds_next ?_
  | with_reducible refine de_var rfl ?_
  | with_reducible refine de_int ?_
  | with_reducible refine de_str ?_
  | with_reducible refine de_bl ?_
  | with_reducible refine de_non ?_
  | with_reducible refine de_ty ?_
  | with_reducible refine de_ref ?_
  | with_reducible refine de_op ?_
  | with_reducible refine de_chain ?_
  | with_reducible refine de_un ?_
  | with_reducible refine de_dnew ?_
  | with_reducible refine de_disp1 ?_
  | with_reducible refine de_cb ?_
  | with_reducible refine de_bm ?_
  | with_reducible refine de_sl ?_
  | with_reducible refine de_tup ?_
  | with_reducible refine de_lst ?_
  | with_reducible refine de_fstr ?_
  | with_reducible refine de_fmtS ?_
  | with_reducible refine dj_cons ?_
  | with_reducible refine dj_nil ?_
  | with_reducible refine do_none ?_
  | with_reducible refine do_some ?_
  | with_reducible refine de_g0 (dds := []) (fun _ => .nil) ?_
  | with_reducible refine de_g (dds := []) (fun _ => .nil) ?_
  | with_reducible refine de_lc ?_
  | with_reducible refine di_str ?_
  | with_reducible refine di_tup ?_
  | with_reducible refine de_notV ?_
  | with_reducible refine de_andV ?_
  | with_reducible refine de_orV ?_
  | with_reducible refine de_if ?_
  | with_reducible refine dt_test ?_
  | with_reducible refine dt_B ?_
  | with_reducible refine dt_and ?_
  | with_reducible refine dt_or ?_
  | with_reducible refine dt_not ?_
  | with_reducible refine dt_yes ?_
  | with_reducible refine da_cons ?_
  | with_reducible refine da_nil ?_
  | with_reducible refine d2_leI ?_
  | with_reducible refine d2_ltI ?_
  | with_reducible refine d2_geI ?_
  | with_reducible refine d2_gtI ?_
  | with_reducible refine d2_addI ?_
  | with_reducible refine d2_sub ?_
  | ((with_reducible refine' d2_leS1 (sign1_cps _) ?hs1 ?_); (case hs1 => first | exact sg_a | exact sg_z | exact sg_sp | exact sg_ti))
  | ((with_reducible refine' d2_leS1 ?hs1 (sign1_cps _) ?_); (case hs1 => first | exact sg_a | exact sg_z | exact sg_sp | exact sg_ti))
  | with_reducible refine dr_int ?_
  | with_reducible refine dr_abs ?_
  | with_reducible refine dg_sub ?_
  | ((with_reducible refine' d2_ix ?hsq ?hix ?_); (case hsq => assumption); (case hix => rfl))
  | ((with_reducible refine' d2_mod ?hmod ?_); (case hmod => first | decide | omega))
  | ((with_reducible refine' d2_mul ?hmul ?_); (case hmul => exact mul_ok (by omega) (by omega)))
  | ((with_reducible refine' d2_div ?hdiv ?_); (case hdiv => exact div_ok (by first | decide | omega) (by omega)))
  | ((with_reducible refine' d2_pow ?hpow ?_); (case hpow => exact pow_ok (by decide) (by decide) (by omega)))
  | with_reducible refine d2_notI ?_
  | with_reducible refine d2_notSt ?_
  | with_reducible refine d2_notNn ?_
  | with_reducible refine d2_notT ?_
  | with_reducible refine d2_isI ?_
  | with_reducible refine d2_isNn ?_
  | with_reducible refine d2_isT ?_
  | with_reducible refine d2_neI ?_
  | with_reducible refine d2_eqI ?_
  | with_reducible refine d2_eqS ?_
  | with_reducible refine d2_neS ?_
  | with_reducible refine dr_isiK (by assumption) (by decide) (by first | assumption | exact isTyD_str _ | exact isTyD_tup _ | rfl) ?_
  | with_reducible refine dr_lenT ?_
  | with_reducible refine dr_lenL ?_
  | with_reducible refine dr_lenR ?_
  | with_reducible refine dr_lenC (by assumption) ?_
  | with_reducible refine ds_to ?_
  | with_reducible refine dg_name (by decide) ?_
  | with_reducible refine dg_tup2 ?_
  | with_reducible refine dg_tup3 ?_
  | with_reducible refine dg_tup4 ?_
  | with_reducible refine dgs_cons ?_
  | with_reducible refine dgs_nil ?_
  | with_reducible refine dr_lenS (by omega) ?_
  | with_reducible refine ⟨_, rfl, ?_⟩
  | with_reducible refine ⟨_, _, rfl, ?_⟩
  | with_reducible refine ⟨tyD_str, ?_⟩
  | with_reducible refine ⟨by omega, ?_⟩
  | with_reducible refine ⟨by (simp only [PySem.Str.length_append, len_empty, len_sp, List.length_cons, List.length_nil, List.length_append]; omega), ?_⟩
  | with_reducible refine bothT ?_
  | with_reducible refine bothF ?_
  | with_reducible refine bothNT ?_
  | with_reducible refine bothNF ?_
  | (with_reducible refine both (fun hc => ?_) (fun hc => ?_) <;> (try simp only [Bool.not_eq_true', Bool.not_eq_false', decide_eq_true_eq, decide_eq_false_iff_not] at hc) <;> (try (exfalso; omega)) <;> (try exact absurd rfl hc) <;> (try exact absurd trivial hc)))

local macro_rules | `(tactic| walk_at "sm") => `(tactic| first
  | with_reducible refine di_lst ?_
  | with_reducible refine as_lst ?_
  | ((with_reducible refine' d2_addSm ?hs1 ?hs2 ?hs3 (fun hs => ?_)); (case hs1 => assumption); (case hs2 => assumption); (case hs3 => omega))
  | ((with_reducible refine' d2_addL ?hal ?_); (case hal => (simp; try omega)))
  | with_reducible refine d1_neg ?_)

def top (i : Nat) : Stmt := PySem.Challenge.pw_maplost_k00_errors.main.body.getD i (.Pass ⟨0, 0, 0, 0⟩)
abbrev topS := top
abbrev s__law_cell : Stmt := (topS 41)
theorem sc__law_cell : FnScope ["script", "k"] ["script", "k"] (defScope s__law_cell) := ⟨rfl, rfl, rfl, by decide +kernel, rfl, by decide +kernel, by decide +kernel⟩
abbrev s__law_box : Stmt := (topS 42)
theorem sc__law_box : FnScope ["great"] ["great"] (defScope s__law_box) := ⟨rfl, rfl, rfl, by decide +kernel, rfl, by decide +kernel, by decide +kernel⟩
abbrev s__law_take : Stmt := (topS 43)
theorem sc__law_take : FnScope ["box", "many", "digit", "mixed"] ["box", "many"] (defScope s__law_take) := ⟨rfl, rfl, rfl, by decide +kernel, rfl, by decide +kernel, by decide +kernel⟩
structure Txt (K : PySem.W.Frag) (mg : Str → Option Value) : Prop where
  b_isinstance : mg "isinstance" = none
  b_len : mg "len" = none
  b_int : mg "int" = none
  b_abs : mg "abs" = none
  b_sum : mg "sum" = none
  b_repr : mg "repr" = none
  b_max : mg "max" = none
  b_min : mg "min" = none
  b_range : mg "range" = none
  b_ValueError : mg "ValueError" = none
structure Df (K : PySem.W.Frag) (mg : Str → Option Value) (x : Str) (f : Addr) : Prop where
  m : mg x = some (.ref f)
  k : PySem.W.keepIn K (.ref f) = true
section
variable {P : Program} {w : World} {K : PySem.W.Frag} {mg : Str → Option Value} {base : Heap}
theorem cxK {a b c d e f g h i j k l m n o} {E : XK} : (cxOf a b c d e f g h i j k l m n o E).K = d := rfl
theorem cutD_map {α : Type} (f : α → Dat) (l : List α) (lo hi : Option Int) : ∃ ys : List α, DL.cutD (l.map f) lo hi = ys.map f := by
  unfold DL.cutD
  exact ⟨_, by rw [List.map_take, List.map_drop]⟩
def pm_cell (K : PySem.W.Frag) : Pm := fun ds ms P X => ∃ (zs : List Int) (k : Int), ds = [.rol (zs.map Dat.int), .int k] ∧ zs.length ≤ 1000 ∧ 0 ≤ k ∧ k ≤ 1000 ∧ ∀ z, P (.int z) ms
theorem ok_cell {f : Addr} {fd : FuncData} (F : Fun K "_law_cell" "_law_cell" s__law_cell f fd) (T : Txt K mg) : FnG P w K mg base (L2N.CX P w) 1 f fd ["script", "k"] (spD K (pm_cell K)) := by
  refine fn_dl F sc__law_cell (fun ds ms Pd X h => by obtain ⟨z, k, rfl, _⟩ := h; rfl) (fun cdv Ar outer s H E hr hq => ?_)
  have tk := (L2N.takes_of (X := cxOf (L2N.CX P w) P w K mg base ["script", "k"] "_law_cell" (defScope s__law_cell) f cdv Ar outer s H E) (E := E) rfl rfl rfl rfl)
  refine ⟨_, (pss_one (ps_ret (pe_ifExp (pt_cmpR op_ltA (pv 1) (pe_callB (crK (K := K) (r := rLenK) rfl call_len) (by rfl) T.b_len bt_len (pa_cons (pv 0) pa_nil)) (nomark _)) (pe_ix (ixK (K := K) (r := rIx) rfl ix_seq) (pv 0) (pv 1) (fun _ _ => rfl)) (pe_op op_addA (pe_op op_mulA pe_int (pv 1)) (pe_op op_modA (pe_callB (crK (K := K) (r := rSum) rfl (cr_sum rfl)) (by rfl) T.b_sum bt_sum (pa_cons (pe_slice (slK (K := K) (r := rSlA) rfl sl_A) (pv 0) po_none (po_some pe_int)) pa_nil)) pe_int))))), ?_⟩
  try simp only [cxK]
  rintro _ ms Pd Xd ⟨zs, k, rfl, hz, h0, h1, q⟩ bl mb
  repeat' walk_at "d1"
  · rename_i hk
    rw [List.length_map] at hk
    obtain ⟨a, _, ha⟩ := atI_map Dat.int h0 hk
    exact d2_ix (.inr (.inr (.inl rfl))) ha (.inl (q _))
  · skip
    refine dsl_list (.inr (.inl rfl)) ?_
    obtain ⟨ys, hy⟩ := cutD_map Dat.int zs none (some 1)
    rw [hy]
    repeat' walk_at "d1"
    refine dr_sum ?_
    repeat' walk_at "d1"
    exact .inl (q _)
def pm_box (K : PySem.W.Frag) : Pm := fun ds ms P X => ∃ g : Int, ds = [.int g] ∧ ∀ xs, BoxOk 0 xs → P (.cell ms.length) (ms ++ [.lst xs])
theorem ok_box {f : Addr} {fd : FuncData} (F : Fun K "_law_box" "_law_box" s__law_box f fd) (T : Txt K mg) : FnG P w K mg base (L2N.CX P w) 1 f fd ["great"] (spD K (pm_box K)) := by
  refine fn_dl F sc__law_box (fun ds ms Pd X h => by obtain ⟨z, rfl, _⟩ := h; rfl) (fun cdv Ar outer s H E hr hq => ?_)
  have tk := (L2N.takes_of (X := cxOf (L2N.CX P w) P w K mg base ["great"] "_law_box" (defScope s__law_box) f cdv Ar outer s H E) (E := E) rfl rfl rfl rfl)
  refine ⟨_, (pss_one (ps_ret (pe_lst (pa_cons (pe_callB call_abs (by rfl) T.b_abs bt_abs (pa_cons (pv 0) pa_nil)) (pa_cons (pe_cmpR op_geA (pe_callB call_abs (by rfl) T.b_abs bt_abs (pa_cons (pv 0) pa_nil)) (pe_op op_powA pe_int pe_int) (nomark _)) (pa_cons (pe_op op_modA (pe_callTy call_intA (by rfl) T.b_int bt_int (pa_cons (pe_callB call_abs (by rfl) T.b_abs bt_abs (pa_cons (pv 0) pa_nil)) pa_nil)) pe_int) (pa_cons pe_int pa_nil))))))), ?_⟩
  try simp only [cxK]
  rintro _ ms Pd Xd ⟨g, rfl, q⟩ bl mb
  refine ds_ret (de_lstC ?_)
  repeat' walk_at "d1"
  refine .inl (q _ ⟨_, _, 0, _, rfl, ?_, Int.emod_nonneg _ (by decide), Int.emod_lt_of_pos _ (by decide), by decide, by decide⟩)
  split <;> omega
def pm_take (K : PySem.W.Frag) : Pm := fun ds ms P X => ∃ (k n : Nat) (many : Int) (xs : List Dat), ds = [.cell k, .int many] ∧ 0 < many ∧ many ≤ 1000 ∧ ms[k]? = some (.lst xs) ∧ BoxOk n xs ∧ n ≤ 100000 ∧
  ∀ r ys, 0 ≤ r → r < many → BoxOk (n + 1) ys → P (.int r) (ms.set k (.lst ys))
theorem set_set {ms : Ms} {k : Nat} {a b : MO} : (ms.set k a).set k b = ms.set k b := List.set_set ..
theorem ok_take {f : Addr} {fd : FuncData} (F : Fun K "_law_take" "_law_take" s__law_take f fd) (T : Txt K mg) : FnG P w K mg base (L2N.CX P w) 1 f fd ["box", "many"] (spD K (pm_take K)) := by
  refine fn_dl F sc__law_take (fun ds ms Pd X h => by obtain ⟨z, _, _, _, rfl, _⟩ := h; rfl) (fun cdv Ar outer s H E hr hq => ?_)
  have tk := (L2N.takes_of (X := cxOf (L2N.CX P w) P w K mg base ["box", "many", "digit", "mixed"] "_law_take" (defScope s__law_take) f cdv Ar outer s H E) (E := E) rfl rfl rfl rfl)
  refine ⟨_, (pss_cons (ps_if (PW.pt (pw_and (pt_val (pe_ix (ixK (K := K) (r := rIx) rfl ix_seq) (pv 0) pe_int (fun _ _ => rfl))) (pw_and1 (pt_cmpR op_gtA (pe_ix (ixK (K := K) (r := rIx) rfl ix_seq) (pv 0) pe_int (fun _ _ => rfl)) pe_int (nomark _))))) (pss_cons (ps_set (i := 2) sc__law_take.nd rfl (by first | exact Or.inl rfl | exact Or.inr rfl) (pe_op op_modA (pe_callTy call_intA (by rfl) T.b_int bt_int (pa_cons (pe_ix (ixK (K := K) (r := rIx) rfl ix_seq) (pv 0) pe_int (fun _ _ => rfl)) pa_nil)) (pv 1))) (pss_cons (ps_asg (pe_op op_divA (pe_ix (ixK (K := K) (r := rIx) rfl ix_seq) (pv 0) pe_int (fun _ _ => rfl)) (pv 1)) (pg_sub (pv 0) pe_int set_list)) (pss_one (ps_ret (pv 2))))) pss_nil) (pss_cons (ps_asg (pe_op op_addA (pe_ix (ixK (K := K) (r := rIx) rfl ix_seq) (pv 0) pe_int (fun _ _ => rfl)) pe_int) (pg_sub (pv 0) pe_int set_list)) (pss_cons (ps_set (i := 3) sc__law_take.nd rfl (by first | exact Or.inl rfl | exact Or.inr rfl) (pe_op op_modA (pe_callTy call_intA (by rfl) T.b_int bt_int (pa_cons (pe_op op_powA (pe_op op_addA (pe_op op_addA (pe_ix (ixK (K := K) (r := rIx) rfl ix_seq) (pv 0) pe_int (fun _ _ => rfl)) (pe_op op_mulA pe_int (pe_ix (ixK (K := K) (r := rIx) rfl ix_seq) (pv 0) pe_int (fun _ _ => rfl)))) pe_int) pe_int) pa_nil)) pe_int)) (pss_one (ps_ret (pe_op op_modA (pe_op op_divA (pe_op op_modA (pe_callTy call_intA (by rfl) T.b_int bt_int (pa_cons (pe_op op_powA (pe_op op_addA (pe_op op_mulA (pv 3) pe_int) (pe_op op_mulA pe_int (pe_ix (ixK (K := K) (r := rIx) rfl ix_seq) (pv 0) pe_int (fun _ _ => rfl)))) pe_int) pa_nil)) pe_int) pe_int) (pv 1))))))), ?_⟩
  try simp only [cxK]
  rintro _ ms Pd Xd ⟨k, n, many, xs, rfl, hm0, hm1, hk, hb, hn, q⟩ bl mb
  obtain ⟨a, m, c, b, rfl, h1, h2, h3, h4, h5⟩ := hb.is
  have lt := ms_lt hk
  have sq0 : SeqV ms (.cell k) [.int a, .bl b, .int m, .int c] := .inr (.inr (.inr ⟨k, rfl, hk⟩))
  have lm : many.natAbs.log2 ≤ 1000 := log_le (by omega)
  have l2 : ∀ i : Int, 0 ≤ i → i < 1000000 → i.natAbs.log2 ≤ 1000000 - 1 := fun i h1 h2 => log_le (by omega)
  repeat' walk_at "d1"
  · rename_i hb ha
    repeat' walk_at "d1"
    refine sub_to hk rfl ?_
    repeat' walk_at "d1"
    exact .inl (q _ _ (Int.emod_nonneg _ (by omega)) (Int.emod_lt_of_pos _ hm0) ⟨_, _, _, _, rfl, Int.ediv_nonneg h1 (by omega), h2, h3, h4, by omega⟩)
  all_goals
    refine sub_to hk rfl ?_
    have sq1 : SeqV (ms.set k (.lst [.int a, .bl b, .int m, .int (c + 1)])) (.cell k) [.int a, .bl b, .int m, .int (c + 1)] := .inr (.inr (.inr ⟨k, rfl, set_same lt⟩))
    repeat' walk_at "d1"
    have mx0 := Int.emod_nonneg ((m + 15485863 * (c + 1) + 179424673) ^ Int.toNat 5) (b := 2147483647) (by decide)
    have mx1 := Int.emod_lt_of_pos ((m + 15485863 * (c + 1) + 179424673) ^ Int.toNat 5) (b := 2147483647) (by decide)
    generalize (m + 15485863 * (c + 1) + 179424673) ^ Int.toNat 5 % 2147483647 = mx at mx0 mx1 ⊢
    repeat' walk_at "d1"
    exact .inl (q _ _ (Int.emod_nonneg _ (by omega)) (Int.emod_lt_of_pos _ hm0) ⟨_, _, _, _, rfl, h1, h2, h3, by omega, by omega⟩)
end
end K00
namespace K00
open PySem PySem.Spec PyProof.Rows L2 DL
local macro_rules | `(tactic| walk_at "hyp") => `(tactic| (first
  | (simp only [Bool.not_eq_true', Bool.not_eq_false', decide_eq_true_eq, decide_eq_false_iff_not, Bool.or_eq_true, Bool.and_eq_true, Bool.or_eq_false_iff, Bool.not_true, Bool.not_false, Bool.and_eq_false_iff] at *)
  | skip))
local macro_rules | `(tactic| walk_at "d1") => `(tactic| first
  | with_reducible refine ds_seq ?_
  | with_reducible refine ds_if ?_
  | with_reducible refine ds_ret ?_
  | with_reducible refine ds_set ?_
  | with_reducible refine ds_drop ?_
  | with_reducible refine ds_par ?_
  | with_reducible refine ds_par3 ?_
  | with_reducible refine ds_next ?_
  | with_reducible refine de_var rfl ?_
  | with_reducible refine de_int ?_
  | with_reducible refine de_str ?_
  | with_reducible refine de_bl ?_
  | with_reducible refine de_non ?_
  | with_reducible refine de_ty ?_
  | with_reducible refine de_ref ?_
  | with_reducible refine de_op ?_
  | with_reducible refine de_chain ?_
  | with_reducible refine de_un ?_
  | with_reducible refine de_dnew ?_
  | with_reducible refine de_disp1 ?_
  | with_reducible refine de_cb ?_
  | with_reducible refine de_bm ?_
  | with_reducible refine de_sl ?_
  | with_reducible refine de_tup ?_
  | with_reducible refine de_lst ?_
  | with_reducible refine de_fstr ?_
  | with_reducible refine de_fmtS ?_
  | with_reducible refine dj_cons ?_
  | with_reducible refine dj_nil ?_
  | with_reducible refine do_none ?_
  | with_reducible refine do_some ?_
  | with_reducible refine de_g0 (dds := []) (fun _ => .nil) ?_
  | with_reducible refine de_g (dds := []) (fun _ => .nil) ?_
  | with_reducible refine de_lc ?_
  | with_reducible refine di_str ?_
  | with_reducible refine di_tup ?_
  | with_reducible refine de_notV ?_
  | with_reducible refine de_andV ?_
  | with_reducible refine de_orV ?_
  | with_reducible refine de_if ?_
  | with_reducible refine dt_test ?_
  | with_reducible refine dt_B ?_
  | with_reducible refine dt_and ?_
  | with_reducible refine dt_or ?_
  | with_reducible refine dt_not ?_
  | with_reducible refine dt_yes ?_
  | with_reducible refine da_cons ?_
  | with_reducible refine da_nil ?_
  | with_reducible refine d2_leI ?_
  | with_reducible refine d2_ltI ?_
  | with_reducible refine d2_geI ?_
  | with_reducible refine d2_gtI ?_
  | with_reducible refine d2_addI ?_
  | with_reducible refine d2_sub ?_
  | ((with_reducible refine' d2_leS1 (sign1_cps _) ?hs1 ?_); (case hs1 => first | exact sg_a | exact sg_z | exact sg_sp | exact sg_ti))
  | ((with_reducible refine' d2_leS1 ?hs1 (sign1_cps _) ?_); (case hs1 => first | exact sg_a | exact sg_z | exact sg_sp | exact sg_ti))
  | with_reducible refine dr_int ?_
  | with_reducible refine dr_abs ?_
  | with_reducible refine dg_sub ?_
  | ((with_reducible refine' d2_ix ?hsq ?hix ?_); (case hsq => assumption); (case hix => rfl))
  | ((with_reducible refine' d2_mod ?hmod ?_); (case hmod => first | decide | omega))
  | ((with_reducible refine' d2_mul ?hmul ?_); (case hmul => exact mul_ok (by omega) (by omega)))
  | ((with_reducible refine' d2_div ?hdiv ?_); (case hdiv => exact div_ok (by first | decide | omega) (by omega)))
  | ((with_reducible refine' d2_pow ?hpow ?_); (case hpow => exact pow_ok (by decide) (by decide) (by omega)))
  | with_reducible refine d2_notI ?_
  | with_reducible refine d2_notSt ?_
  | with_reducible refine d2_notNn ?_
  | with_reducible refine d2_notT ?_
  | with_reducible refine d2_isI ?_
  | with_reducible refine d2_isNn ?_
  | with_reducible refine d2_isT ?_
  | with_reducible refine d2_neI ?_
  | with_reducible refine d2_eqI ?_
  | with_reducible refine d2_eqS ?_
  | with_reducible refine d2_neS ?_
  | with_reducible refine dr_isiK (by assumption) (by decide) (by first | assumption | exact isTyD_str _ | exact isTyD_tup _ | rfl) ?_
  | with_reducible refine dr_lenT ?_
  | with_reducible refine dr_lenL ?_
  | with_reducible refine dr_lenR ?_
  | with_reducible refine dr_lenC (by assumption) ?_
  | with_reducible refine ds_to ?_
  | with_reducible refine dg_name (by decide) ?_
  | with_reducible refine dg_tup2 ?_
  | with_reducible refine dg_tup3 ?_
  | with_reducible refine dg_tup4 ?_
  | with_reducible refine dgs_cons ?_
  | with_reducible refine dgs_nil ?_
  | with_reducible refine dr_lenS (by omega) ?_
  | with_reducible refine ⟨⟨by simp only [List.length_cons, List.length_nil], by simp only [List.length_cons, List.length_nil]; omega⟩, ?_⟩
  | with_reducible refine ⟨_, rfl, ?_⟩
  | with_reducible refine ⟨_, _, rfl, ?_⟩
  | with_reducible refine ⟨tyD_str, ?_⟩
  | with_reducible refine ⟨by omega, ?_⟩
  | with_reducible refine ⟨by (simp only [PySem.Str.length_append, len_empty, len_sp, List.length_cons, List.length_nil, List.length_append]; omega), ?_⟩
  | with_reducible refine bothT ?_
  | with_reducible refine bothF ?_
  | with_reducible refine bothNT ?_
  | with_reducible refine bothNF ?_
  | (with_reducible refine both (fun hc => ?_) (fun hc => ?_) <;> (try simp only [Bool.not_eq_true', Bool.not_eq_false', decide_eq_true_eq, decide_eq_false_iff_not] at hc) <;> (try (exfalso; omega)) <;> (try exact absurd rfl hc) <;> (try exact absurd trivial hc)))

local macro_rules | `(tactic| walk_at "sm") => `(tactic| first
  | with_reducible refine di_lst ?_
  | with_reducible refine as_lst ?_
  | ((with_reducible refine' d2_addSm ?hs1 ?hs2 ?hs3 (fun hs => ?_)); (case hs1 => assumption); (case hs2 => assumption); (case hs3 => omega))
  | ((with_reducible refine' d2_addL ?hal ?_); (case hal => (simp; try omega)))
  | with_reducible refine d1_neg ?_)

abbrev s__law_by_place : Stmt := (topS 44)
theorem sc__law_by_place : FnScope ["thing", "found"] ["thing"] (defScope s__law_by_place) := ⟨rfl, rfl, rfl, by decide +kernel, rfl, by decide +kernel, by decide +kernel⟩
abbrev s__law_by_name : Stmt := (topS 45)
theorem sc__law_by_name : FnScope ["thing", "found"] ["thing"] (defScope s__law_by_name) := ⟨rfl, rfl, rfl, by decide +kernel, rfl, by decide +kernel, by decide +kernel⟩
section
variable {P : Program} {w : World} {K : PySem.W.Frag} {mg : Str → Option Value} {base : Heap}
def fields1 : List Str := [Str.ofString "given", Str.ofString "given", Str.ofString "given", Str.ofString "given", Str.ofString "given", Str.ofString "given", Str.ofString "given", Str.ofString "given", Str.ofString "given", Str.ofString "given", Str.ofString "given", Str.ofString "given", Str.ofString "given", Str.ofString "given", Str.ofString "given", Str.ofString "given", Str.ofString "given", Str.ofString "given", Str.ofString "given", Str.ofString "given", Str.ofString "given", Str.ofString "house", Str.ofString "house", Str.ofString "at", Str.ofString "names", Str.ofString "names", Str.ofString "many", Str.ofString "picture", Str.ofString "cross", Str.ofString "reader", Str.ofString "picture", Str.ofString "reader", Str.ofString "count", Str.ofString "k"]
def onesD (Cs : List Addr) (d : Dat) : List Dat := (Cs.zip fields1).map fun p => .exc p.1 [(p.2, d)]
def pm_ones (K : PySem.W.Frag) (Cs : List Addr) : Pm := fun ds ms P X => ∃ d, ds = [d] ∧ P (.lst (onesD Cs d)) ms
theorem ok_by_place {f : Addr} {fd : FuncData} (F : Fun K "_law_by_place" "_law_by_place" s__law_by_place f fd) (T : Txt K mg)
    {C0 I0 : Addr} {fI0 : FuncData} (E_InvalidLine : ErrT K mg "InvalidLine" "given" C0 I0 fI0) (I_InvalidLine : FnOk P w K mg base (L2N.CX P w) 1 I0 fI0 ["self", "given"] (spIni1 K "given"))
    {C1 I1 : Addr} {fI1 : FuncData} (E_InvalidText : ErrT K mg "InvalidText" "given" C1 I1 fI1) (I_InvalidText : FnOk P w K mg base (L2N.CX P w) 1 I1 fI1 ["self", "given"] (spIni1 K "given"))
    {C2 I2 : Addr} {fI2 : FuncData} (E_InvalidHouses : ErrT K mg "InvalidHouses" "given" C2 I2 fI2) (I_InvalidHouses : FnOk P w K mg base (L2N.CX P w) 1 I2 fI2 ["self", "given"] (spIni1 K "given"))
    {C3 I3 : Addr} {fI3 : FuncData} (E_InvalidRoads : ErrT K mg "InvalidRoads" "given" C3 I3 fI3) (I_InvalidRoads : FnOk P w K mg base (L2N.CX P w) 1 I3 fI3 ["self", "given"] (spIni1 K "given"))
    {C4 I4 : Addr} {fI4 : FuncData} (E_InvalidHouse : ErrT K mg "InvalidHouse" "given" C4 I4 fI4) (I_InvalidHouse : FnOk P w K mg base (L2N.CX P w) 1 I4 fI4 ["self", "given"] (spIni1 K "given"))
    {C5 I5 : Addr} {fI5 : FuncData} (E_InvalidNames : ErrT K mg "InvalidNames" "given" C5 I5 fI5) (I_InvalidNames : FnOk P w K mg base (L2N.CX P w) 1 I5 fI5 ["self", "given"] (spIni1 K "given"))
    {C6 I6 : Addr} {fI6 : FuncData} (E_InvalidScript : ErrT K mg "InvalidScript" "given" C6 I6 fI6) (I_InvalidScript : FnOk P w K mg base (L2N.CX P w) 1 I6 fI6 ["self", "given"] (spIni1 K "given"))
    {C7 I7 : Addr} {fI7 : FuncData} (E_InvalidFounds : ErrT K mg "InvalidFounds" "given" C7 I7 fI7) (I_InvalidFounds : FnOk P w K mg base (L2N.CX P w) 1 I7 fI7 ["self", "given"] (spIni1 K "given"))
    {C8 I8 : Addr} {fI8 : FuncData} (E_InvalidCount : ErrT K mg "InvalidCount" "given" C8 I8 fI8) (I_InvalidCount : FnOk P w K mg base (L2N.CX P w) 1 I8 fI8 ["self", "given"] (spIni1 K "given"))
    {C9 I9 : Addr} {fI9 : FuncData} (E_InvalidCounts : ErrT K mg "InvalidCounts" "given" C9 I9 fI9) (I_InvalidCounts : FnOk P w K mg base (L2N.CX P w) 1 I9 fI9 ["self", "given"] (spIni1 K "given"))
    {C10 I10 : Addr} {fI10 : FuncData} (E_InvalidLater : ErrT K mg "InvalidLater" "given" C10 I10 fI10) (I_InvalidLater : FnOk P w K mg base (L2N.CX P w) 1 I10 fI10 ["self", "given"] (spIni1 K "given"))
    {C11 I11 : Addr} {fI11 : FuncData} (E_InvalidIndex : ErrT K mg "InvalidIndex" "given" C11 I11 fI11) (I_InvalidIndex : FnOk P w K mg base (L2N.CX P w) 1 I11 fI11 ["self", "given"] (spIni1 K "given"))
    {C12 I12 : Addr} {fI12 : FuncData} (E_InvalidReaders : ErrT K mg "InvalidReaders" "given" C12 I12 fI12) (I_InvalidReaders : FnOk P w K mg base (L2N.CX P w) 1 I12 fI12 ["self", "given"] (spIni1 K "given"))
    {C13 I13 : Addr} {fI13 : FuncData} (E_InvalidMap : ErrT K mg "InvalidMap" "given" C13 I13 fI13) (I_InvalidMap : FnOk P w K mg base (L2N.CX P w) 1 I13 fI13 ["self", "given"] (spIni1 K "given"))
    {C14 I14 : Addr} {fI14 : FuncData} (E_InvalidLot : ErrT K mg "InvalidLot" "given" C14 I14 fI14) (I_InvalidLot : FnOk P w K mg base (L2N.CX P w) 1 I14 fI14 ["self", "given"] (spIni1 K "given"))
    {C15 I15 : Addr} {fI15 : FuncData} (E_InvalidSeats : ErrT K mg "InvalidSeats" "given" C15 I15 fI15) (I_InvalidSeats : FnOk P w K mg base (L2N.CX P w) 1 I15 fI15 ["self", "given"] (spIni1 K "given"))
    {C16 I16 : Addr} {fI16 : FuncData} (E_InvalidName : ErrT K mg "InvalidName" "given" C16 I16 fI16) (I_InvalidName : FnOk P w K mg base (L2N.CX P w) 1 I16 fI16 ["self", "given"] (spIni1 K "given"))
    {C17 I17 : Addr} {fI17 : FuncData} (E_InvalidOwns : ErrT K mg "InvalidOwns" "given" C17 I17 fI17) (I_InvalidOwns : FnOk P w K mg base (L2N.CX P w) 1 I17 fI17 ["self", "given"] (spIni1 K "given"))
    {C18 I18 : Addr} {fI18 : FuncData} (E_InvalidLines : ErrT K mg "InvalidLines" "given" C18 I18 fI18) (I_InvalidLines : FnOk P w K mg base (L2N.CX P w) 1 I18 fI18 ["self", "given"] (spIni1 K "given"))
    {C19 I19 : Addr} {fI19 : FuncData} (E_InvalidWriters : ErrT K mg "InvalidWriters" "given" C19 I19 fI19) (I_InvalidWriters : FnOk P w K mg base (L2N.CX P w) 1 I19 fI19 ["self", "given"] (spIni1 K "given"))
    {C20 I20 : Addr} {fI20 : FuncData} (E_InvalidRows : ErrT K mg "InvalidRows" "given" C20 I20 fI20) (I_InvalidRows : FnOk P w K mg base (L2N.CX P w) 1 I20 fI20 ["self", "given"] (spIni1 K "given"))
    {C21 I21 : Addr} {fI21 : FuncData} (E_NotJoined : ErrT K mg "NotJoined" "house" C21 I21 fI21) (I_NotJoined : FnOk P w K mg base (L2N.CX P w) 1 I21 fI21 ["self", "house"] (spIni1 K "house"))
    {C22 I22 : Addr} {fI22 : FuncData} (E_Stopped : ErrT K mg "Stopped" "house" C22 I22 fI22) (I_Stopped : FnOk P w K mg base (L2N.CX P w) 1 I22 fI22 ["self", "house"] (spIni1 K "house"))
    {C23 I23 : Addr} {fI23 : FuncData} (E_Refused : ErrT K mg "Refused" "at" C23 I23 fI23) (I_Refused : FnOk P w K mg base (L2N.CX P w) 1 I23 fI23 ["self", "at"] (spIni1 K "at"))
    {C24 I24 : Addr} {fI24 : FuncData} (E_Ringed : ErrT K mg "Ringed" "names" C24 I24 fI24) (I_Ringed : FnOk P w K mg base (L2N.CX P w) 1 I24 fI24 ["self", "names"] (spIni1 K "names"))
    {C25 I25 : Addr} {fI25 : FuncData} (E_NoRow : ErrT K mg "NoRow" "names" C25 I25 fI25) (I_NoRow : FnOk P w K mg base (L2N.CX P w) 1 I25 fI25 ["self", "names"] (spIni1 K "names"))
    {C26 I26 : Addr} {fI26 : FuncData} (E_NotTwo : ErrT K mg "NotTwo" "many" C26 I26 fI26) (I_NotTwo : FnOk P w K mg base (L2N.CX P w) 1 I26 fI26 ["self", "many"] (spIni1 K "many"))
    {C27 I27 : Addr} {fI27 : FuncData} (E_Nobodys : ErrT K mg "Nobodys" "picture" C27 I27 fI27) (I_Nobodys : FnOk P w K mg base (L2N.CX P w) 1 I27 fI27 ["self", "picture"] (spIni1 K "picture"))
    {C28 I28 : Addr} {fI28 : FuncData} (E_Crossed : ErrT K mg "Crossed" "cross" C28 I28 fI28) (I_Crossed : FnOk P w K mg base (L2N.CX P w) 1 I28 fI28 ["self", "cross"] (spIni1 K "cross"))
    {C29 I29 : Addr} {fI29 : FuncData} (E_NotWhole : ErrT K mg "NotWhole" "reader" C29 I29 fI29) (I_NotWhole : FnOk P w K mg base (L2N.CX P w) 1 I29 fI29 ["self", "reader"] (spIni1 K "reader"))
    {C30 I30 : Addr} {fI30 : FuncData} (E_Fitless : ErrT K mg "Fitless" "picture" C30 I30 fI30) (I_Fitless : FnOk P w K mg base (L2N.CX P w) 1 I30 fI30 ["self", "picture"] (spIni1 K "picture"))
    {C31 I31 : Addr} {fI31 : FuncData} (E_Clash : ErrT K mg "Clash" "reader" C31 I31 fI31) (I_Clash : FnOk P w K mg base (L2N.CX P w) 1 I31 fI31 ["self", "reader"] (spIni1 K "reader"))
    {C32 I32 : Addr} {fI32 : FuncData} (E_TooMany : ErrT K mg "TooMany" "count" C32 I32 fI32) (I_TooMany : FnOk P w K mg base (L2N.CX P w) 1 I32 fI32 ["self", "count"] (spIni1 K "count"))
    {C33 I33 : Addr} {fI33 : FuncData} (E_NoLetter : ErrT K mg "NoLetter" "k" C33 I33 fI33) (I_NoLetter : FnOk P w K mg base (L2N.CX P w) 1 I33 fI33 ["self", "k"] (spIni1 K "k")) :
    FnG P w K mg base (L2N.CX P w) 3 f fd ["thing"] (spD K (pm_ones K [C0, C1, C2, C3, C4, C5, C6, C7, C8, C9, C10, C11, C12, C13, C14, C15, C16, C17, C18, C19, C20, C21, C22, C23, C24, C25, C26, C27, C28, C29, C30, C31, C32, C33])) := by
  refine fn_dl F sc__law_by_place (fun ds ms Pd X h => by obtain ⟨_, rfl, _⟩ := h; rfl) (fun cdv Ar outer s H E hr hq => ?_)
  have tk := (L2N.takes_of (X := cxOf (L2N.CX P w) P w K mg base ["thing", "found"] "_law_by_place" (defScope s__law_by_place) f cdv Ar outer s H E) (E := E) rfl rfl rfl rfl)
  refine ⟨_, (pss_cons (ps_set (i := 1) sc__law_by_place.nd rfl (by first | exact Or.inl rfl | exact Or.inr rfl) (pe_lst (pa_cons (pe_newE E_InvalidLine.t.o E_InvalidLine.i E_InvalidLine.ti I_InvalidLine (hr.mono (by decide)) E_InvalidLine.b passE rfl E_InvalidLine.m (pa_cons (pv 0) pa_nil)) (pa_cons (pe_newE E_InvalidText.t.o E_InvalidText.i E_InvalidText.ti I_InvalidText (hr.mono (by decide)) E_InvalidText.b passE rfl E_InvalidText.m (pa_cons (pv 0) pa_nil)) (pa_cons (pe_newE E_InvalidHouses.t.o E_InvalidHouses.i E_InvalidHouses.ti I_InvalidHouses (hr.mono (by decide)) E_InvalidHouses.b passE rfl E_InvalidHouses.m (pa_cons (pv 0) pa_nil)) (pa_cons (pe_newE E_InvalidRoads.t.o E_InvalidRoads.i E_InvalidRoads.ti I_InvalidRoads (hr.mono (by decide)) E_InvalidRoads.b passE rfl E_InvalidRoads.m (pa_cons (pv 0) pa_nil)) (pa_cons (pe_newE E_InvalidHouse.t.o E_InvalidHouse.i E_InvalidHouse.ti I_InvalidHouse (hr.mono (by decide)) E_InvalidHouse.b passE rfl E_InvalidHouse.m (pa_cons (pv 0) pa_nil)) pa_nil))))))) (pss_cons (ps_set (i := 1) sc__law_by_place.nd rfl (by first | exact Or.inl rfl | exact Or.inr rfl) (pe_op op_addA (pv 1) (pe_lst (pa_cons (pe_newE E_InvalidNames.t.o E_InvalidNames.i E_InvalidNames.ti I_InvalidNames (hr.mono (by decide)) E_InvalidNames.b passE rfl E_InvalidNames.m (pa_cons (pv 0) pa_nil)) (pa_cons (pe_newE E_InvalidScript.t.o E_InvalidScript.i E_InvalidScript.ti I_InvalidScript (hr.mono (by decide)) E_InvalidScript.b passE rfl E_InvalidScript.m (pa_cons (pv 0) pa_nil)) (pa_cons (pe_newE E_InvalidFounds.t.o E_InvalidFounds.i E_InvalidFounds.ti I_InvalidFounds (hr.mono (by decide)) E_InvalidFounds.b passE rfl E_InvalidFounds.m (pa_cons (pv 0) pa_nil)) (pa_cons (pe_newE E_InvalidCount.t.o E_InvalidCount.i E_InvalidCount.ti I_InvalidCount (hr.mono (by decide)) E_InvalidCount.b passE rfl E_InvalidCount.m (pa_cons (pv 0) pa_nil)) pa_nil))))))) (pss_cons (ps_set (i := 1) sc__law_by_place.nd rfl (by first | exact Or.inl rfl | exact Or.inr rfl) (pe_op op_addA (pv 1) (pe_lst (pa_cons (pe_newE E_InvalidCounts.t.o E_InvalidCounts.i E_InvalidCounts.ti I_InvalidCounts (hr.mono (by decide)) E_InvalidCounts.b passE rfl E_InvalidCounts.m (pa_cons (pv 0) pa_nil)) (pa_cons (pe_newE E_InvalidLater.t.o E_InvalidLater.i E_InvalidLater.ti I_InvalidLater (hr.mono (by decide)) E_InvalidLater.b passE rfl E_InvalidLater.m (pa_cons (pv 0) pa_nil)) (pa_cons (pe_newE E_InvalidIndex.t.o E_InvalidIndex.i E_InvalidIndex.ti I_InvalidIndex (hr.mono (by decide)) E_InvalidIndex.b passE rfl E_InvalidIndex.m (pa_cons (pv 0) pa_nil)) (pa_cons (pe_newE E_InvalidReaders.t.o E_InvalidReaders.i E_InvalidReaders.ti I_InvalidReaders (hr.mono (by decide)) E_InvalidReaders.b passE rfl E_InvalidReaders.m (pa_cons (pv 0) pa_nil)) pa_nil))))))) (pss_cons (ps_set (i := 1) sc__law_by_place.nd rfl (by first | exact Or.inl rfl | exact Or.inr rfl) (pe_op op_addA (pv 1) (pe_lst (pa_cons (pe_newE E_InvalidMap.t.o E_InvalidMap.i E_InvalidMap.ti I_InvalidMap (hr.mono (by decide)) E_InvalidMap.b passE rfl E_InvalidMap.m (pa_cons (pv 0) pa_nil)) (pa_cons (pe_newE E_InvalidLot.t.o E_InvalidLot.i E_InvalidLot.ti I_InvalidLot (hr.mono (by decide)) E_InvalidLot.b passE rfl E_InvalidLot.m (pa_cons (pv 0) pa_nil)) (pa_cons (pe_newE E_InvalidSeats.t.o E_InvalidSeats.i E_InvalidSeats.ti I_InvalidSeats (hr.mono (by decide)) E_InvalidSeats.b passE rfl E_InvalidSeats.m (pa_cons (pv 0) pa_nil)) (pa_cons (pe_newE E_InvalidName.t.o E_InvalidName.i E_InvalidName.ti I_InvalidName (hr.mono (by decide)) E_InvalidName.b passE rfl E_InvalidName.m (pa_cons (pv 0) pa_nil)) (pa_cons (pe_newE E_InvalidOwns.t.o E_InvalidOwns.i E_InvalidOwns.ti I_InvalidOwns (hr.mono (by decide)) E_InvalidOwns.b passE rfl E_InvalidOwns.m (pa_cons (pv 0) pa_nil)) pa_nil)))))))) (pss_cons (ps_set (i := 1) sc__law_by_place.nd rfl (by first | exact Or.inl rfl | exact Or.inr rfl) (pe_op op_addA (pv 1) (pe_lst (pa_cons (pe_newE E_InvalidLines.t.o E_InvalidLines.i E_InvalidLines.ti I_InvalidLines (hr.mono (by decide)) E_InvalidLines.b passE rfl E_InvalidLines.m (pa_cons (pv 0) pa_nil)) (pa_cons (pe_newE E_InvalidWriters.t.o E_InvalidWriters.i E_InvalidWriters.ti I_InvalidWriters (hr.mono (by decide)) E_InvalidWriters.b passE rfl E_InvalidWriters.m (pa_cons (pv 0) pa_nil)) (pa_cons (pe_newE E_InvalidRows.t.o E_InvalidRows.i E_InvalidRows.ti I_InvalidRows (hr.mono (by decide)) E_InvalidRows.b passE rfl E_InvalidRows.m (pa_cons (pv 0) pa_nil)) pa_nil)))))) (pss_cons (ps_set (i := 1) sc__law_by_place.nd rfl (by first | exact Or.inl rfl | exact Or.inr rfl) (pe_op op_addA (pv 1) (pe_lst (pa_cons (pe_newE E_NotJoined.t.o E_NotJoined.i E_NotJoined.ti I_NotJoined (hr.mono (by decide)) E_NotJoined.b passE rfl E_NotJoined.m (pa_cons (pv 0) pa_nil)) (pa_cons (pe_newE E_Stopped.t.o E_Stopped.i E_Stopped.ti I_Stopped (hr.mono (by decide)) E_Stopped.b passE rfl E_Stopped.m (pa_cons (pv 0) pa_nil)) (pa_cons (pe_newE E_Refused.t.o E_Refused.i E_Refused.ti I_Refused (hr.mono (by decide)) E_Refused.b passE rfl E_Refused.m (pa_cons (pv 0) pa_nil)) (pa_cons (pe_newE E_Ringed.t.o E_Ringed.i E_Ringed.ti I_Ringed (hr.mono (by decide)) E_Ringed.b passE rfl E_Ringed.m (pa_cons (pv 0) pa_nil)) (pa_cons (pe_newE E_NoRow.t.o E_NoRow.i E_NoRow.ti I_NoRow (hr.mono (by decide)) E_NoRow.b passE rfl E_NoRow.m (pa_cons (pv 0) pa_nil)) (pa_cons (pe_newE E_NotTwo.t.o E_NotTwo.i E_NotTwo.ti I_NotTwo (hr.mono (by decide)) E_NotTwo.b passE rfl E_NotTwo.m (pa_cons (pv 0) pa_nil)) pa_nil))))))))) (pss_cons (ps_set (i := 1) sc__law_by_place.nd rfl (by first | exact Or.inl rfl | exact Or.inr rfl) (pe_op op_addA (pv 1) (pe_lst (pa_cons (pe_newE E_Nobodys.t.o E_Nobodys.i E_Nobodys.ti I_Nobodys (hr.mono (by decide)) E_Nobodys.b passE rfl E_Nobodys.m (pa_cons (pv 0) pa_nil)) (pa_cons (pe_newE E_Crossed.t.o E_Crossed.i E_Crossed.ti I_Crossed (hr.mono (by decide)) E_Crossed.b passE rfl E_Crossed.m (pa_cons (pv 0) pa_nil)) (pa_cons (pe_newE E_NotWhole.t.o E_NotWhole.i E_NotWhole.ti I_NotWhole (hr.mono (by decide)) E_NotWhole.b passE rfl E_NotWhole.m (pa_cons (pv 0) pa_nil)) (pa_cons (pe_newE E_Fitless.t.o E_Fitless.i E_Fitless.ti I_Fitless (hr.mono (by decide)) E_Fitless.b passE rfl E_Fitless.m (pa_cons (pv 0) pa_nil)) (pa_cons (pe_newE E_Clash.t.o E_Clash.i E_Clash.ti I_Clash (hr.mono (by decide)) E_Clash.b passE rfl E_Clash.m (pa_cons (pv 0) pa_nil)) (pa_cons (pe_newE E_TooMany.t.o E_TooMany.i E_TooMany.ti I_TooMany (hr.mono (by decide)) E_TooMany.b passE rfl E_TooMany.m (pa_cons (pv 0) pa_nil)) pa_nil))))))))) (pss_one (ps_ret (pe_op op_addA (pv 1) (pe_lst (pa_cons (pe_newE E_NoLetter.t.o E_NoLetter.i E_NoLetter.ti I_NoLetter (hr.mono (by decide)) E_NoLetter.b passE rfl E_NoLetter.m (pa_cons (pv 0) pa_nil)) pa_nil)))))))))))), ?_⟩
  try simp only [cxK]
  rintro _ ms Pd Xd ⟨d, rfl, q⟩ bl mb
  refine ds_seq (ds_set ?_)
  refine de_lst ?_
  refine da_cons (de_newE1 E_InvalidLine.t.o E_InvalidLine.no (da_cons (de_var rfl (da_nil ⟨_, rfl, ?_⟩))))
  refine da_cons (de_newE1 E_InvalidText.t.o E_InvalidText.no (da_cons (de_var rfl (da_nil ⟨_, rfl, ?_⟩))))
  refine da_cons (de_newE1 E_InvalidHouses.t.o E_InvalidHouses.no (da_cons (de_var rfl (da_nil ⟨_, rfl, ?_⟩))))
  refine da_cons (de_newE1 E_InvalidRoads.t.o E_InvalidRoads.no (da_cons (de_var rfl (da_nil ⟨_, rfl, ?_⟩))))
  refine da_cons (de_newE1 E_InvalidHouse.t.o E_InvalidHouse.no (da_cons (de_var rfl (da_nil ⟨_, rfl, ?_⟩))))
  refine da_nil ⟨by simp only [List.length_cons, List.length_nil]; omega, ?_⟩
  refine ds_seq (ds_set ?_)
  refine de_op (de_var rfl ?_)
  refine de_lst ?_
  refine da_cons (de_newE1 E_InvalidNames.t.o E_InvalidNames.no (da_cons (de_var rfl (da_nil ⟨_, rfl, ?_⟩))))
  refine da_cons (de_newE1 E_InvalidScript.t.o E_InvalidScript.no (da_cons (de_var rfl (da_nil ⟨_, rfl, ?_⟩))))
  refine da_cons (de_newE1 E_InvalidFounds.t.o E_InvalidFounds.no (da_cons (de_var rfl (da_nil ⟨_, rfl, ?_⟩))))
  refine da_cons (de_newE1 E_InvalidCount.t.o E_InvalidCount.no (da_cons (de_var rfl (da_nil ⟨_, rfl, ?_⟩))))
  refine da_nil ⟨by simp only [List.length_cons, List.length_nil]; omega, ?_⟩
  refine d2_addL (by simp) ?_
  refine ds_seq (ds_set ?_)
  refine de_op (de_var rfl ?_)
  refine de_lst ?_
  refine da_cons (de_newE1 E_InvalidCounts.t.o E_InvalidCounts.no (da_cons (de_var rfl (da_nil ⟨_, rfl, ?_⟩))))
  refine da_cons (de_newE1 E_InvalidLater.t.o E_InvalidLater.no (da_cons (de_var rfl (da_nil ⟨_, rfl, ?_⟩))))
  refine da_cons (de_newE1 E_InvalidIndex.t.o E_InvalidIndex.no (da_cons (de_var rfl (da_nil ⟨_, rfl, ?_⟩))))
  refine da_cons (de_newE1 E_InvalidReaders.t.o E_InvalidReaders.no (da_cons (de_var rfl (da_nil ⟨_, rfl, ?_⟩))))
  refine da_nil ⟨by simp only [List.length_cons, List.length_nil]; omega, ?_⟩
  refine d2_addL (by simp) ?_
  refine ds_seq (ds_set ?_)
  refine de_op (de_var rfl ?_)
  refine de_lst ?_
  refine da_cons (de_newE1 E_InvalidMap.t.o E_InvalidMap.no (da_cons (de_var rfl (da_nil ⟨_, rfl, ?_⟩))))
  refine da_cons (de_newE1 E_InvalidLot.t.o E_InvalidLot.no (da_cons (de_var rfl (da_nil ⟨_, rfl, ?_⟩))))
  refine da_cons (de_newE1 E_InvalidSeats.t.o E_InvalidSeats.no (da_cons (de_var rfl (da_nil ⟨_, rfl, ?_⟩))))
  refine da_cons (de_newE1 E_InvalidName.t.o E_InvalidName.no (da_cons (de_var rfl (da_nil ⟨_, rfl, ?_⟩))))
  refine da_cons (de_newE1 E_InvalidOwns.t.o E_InvalidOwns.no (da_cons (de_var rfl (da_nil ⟨_, rfl, ?_⟩))))
  refine da_nil ⟨by simp only [List.length_cons, List.length_nil]; omega, ?_⟩
  refine d2_addL (by simp) ?_
  refine ds_seq (ds_set ?_)
  refine de_op (de_var rfl ?_)
  refine de_lst ?_
  refine da_cons (de_newE1 E_InvalidLines.t.o E_InvalidLines.no (da_cons (de_var rfl (da_nil ⟨_, rfl, ?_⟩))))
  refine da_cons (de_newE1 E_InvalidWriters.t.o E_InvalidWriters.no (da_cons (de_var rfl (da_nil ⟨_, rfl, ?_⟩))))
  refine da_cons (de_newE1 E_InvalidRows.t.o E_InvalidRows.no (da_cons (de_var rfl (da_nil ⟨_, rfl, ?_⟩))))
  refine da_nil ⟨by simp only [List.length_cons, List.length_nil]; omega, ?_⟩
  refine d2_addL (by simp) ?_
  refine ds_seq (ds_set ?_)
  refine de_op (de_var rfl ?_)
  refine de_lst ?_
  refine da_cons (de_newE1 E_NotJoined.t.o E_NotJoined.no (da_cons (de_var rfl (da_nil ⟨_, rfl, ?_⟩))))
  refine da_cons (de_newE1 E_Stopped.t.o E_Stopped.no (da_cons (de_var rfl (da_nil ⟨_, rfl, ?_⟩))))
  refine da_cons (de_newE1 E_Refused.t.o E_Refused.no (da_cons (de_var rfl (da_nil ⟨_, rfl, ?_⟩))))
  refine da_cons (de_newE1 E_Ringed.t.o E_Ringed.no (da_cons (de_var rfl (da_nil ⟨_, rfl, ?_⟩))))
  refine da_cons (de_newE1 E_NoRow.t.o E_NoRow.no (da_cons (de_var rfl (da_nil ⟨_, rfl, ?_⟩))))
  refine da_cons (de_newE1 E_NotTwo.t.o E_NotTwo.no (da_cons (de_var rfl (da_nil ⟨_, rfl, ?_⟩))))
  refine da_nil ⟨by simp only [List.length_cons, List.length_nil]; omega, ?_⟩
  refine d2_addL (by simp) ?_
  refine ds_seq (ds_set ?_)
  refine de_op (de_var rfl ?_)
  refine de_lst ?_
  refine da_cons (de_newE1 E_Nobodys.t.o E_Nobodys.no (da_cons (de_var rfl (da_nil ⟨_, rfl, ?_⟩))))
  refine da_cons (de_newE1 E_Crossed.t.o E_Crossed.no (da_cons (de_var rfl (da_nil ⟨_, rfl, ?_⟩))))
  refine da_cons (de_newE1 E_NotWhole.t.o E_NotWhole.no (da_cons (de_var rfl (da_nil ⟨_, rfl, ?_⟩))))
  refine da_cons (de_newE1 E_Fitless.t.o E_Fitless.no (da_cons (de_var rfl (da_nil ⟨_, rfl, ?_⟩))))
  refine da_cons (de_newE1 E_Clash.t.o E_Clash.no (da_cons (de_var rfl (da_nil ⟨_, rfl, ?_⟩))))
  refine da_cons (de_newE1 E_TooMany.t.o E_TooMany.no (da_cons (de_var rfl (da_nil ⟨_, rfl, ?_⟩))))
  refine da_nil ⟨by simp only [List.length_cons, List.length_nil]; omega, ?_⟩
  refine d2_addL (by simp) ?_
  refine ds_ret ?_
  refine de_op (de_var rfl ?_)
  refine de_lst ?_
  refine da_cons (de_newE1 E_NoLetter.t.o E_NoLetter.no (da_cons (de_var rfl (da_nil ⟨_, rfl, ?_⟩))))
  refine da_nil ⟨by simp only [List.length_cons, List.length_nil]; omega, ?_⟩
  refine d2_addL (by simp) ?_
  exact .inl q
theorem ok_by_name {f : Addr} {fd : FuncData} (F : Fun K "_law_by_name" "_law_by_name" s__law_by_name f fd) (T : Txt K mg)
    {C0 I0 : Addr} {fI0 : FuncData} (E_InvalidLine : ErrT K mg "InvalidLine" "given" C0 I0 fI0) (I_InvalidLine : FnOk P w K mg base (L2N.CX P w) 1 I0 fI0 ["self", "given"] (spIni1 K "given"))
    {C1 I1 : Addr} {fI1 : FuncData} (E_InvalidText : ErrT K mg "InvalidText" "given" C1 I1 fI1) (I_InvalidText : FnOk P w K mg base (L2N.CX P w) 1 I1 fI1 ["self", "given"] (spIni1 K "given"))
    {C2 I2 : Addr} {fI2 : FuncData} (E_InvalidHouses : ErrT K mg "InvalidHouses" "given" C2 I2 fI2) (I_InvalidHouses : FnOk P w K mg base (L2N.CX P w) 1 I2 fI2 ["self", "given"] (spIni1 K "given"))
    {C3 I3 : Addr} {fI3 : FuncData} (E_InvalidRoads : ErrT K mg "InvalidRoads" "given" C3 I3 fI3) (I_InvalidRoads : FnOk P w K mg base (L2N.CX P w) 1 I3 fI3 ["self", "given"] (spIni1 K "given"))
    {C4 I4 : Addr} {fI4 : FuncData} (E_InvalidHouse : ErrT K mg "InvalidHouse" "given" C4 I4 fI4) (I_InvalidHouse : FnOk P w K mg base (L2N.CX P w) 1 I4 fI4 ["self", "given"] (spIni1 K "given"))
    {C5 I5 : Addr} {fI5 : FuncData} (E_InvalidNames : ErrT K mg "InvalidNames" "given" C5 I5 fI5) (I_InvalidNames : FnOk P w K mg base (L2N.CX P w) 1 I5 fI5 ["self", "given"] (spIni1 K "given"))
    {C6 I6 : Addr} {fI6 : FuncData} (E_InvalidScript : ErrT K mg "InvalidScript" "given" C6 I6 fI6) (I_InvalidScript : FnOk P w K mg base (L2N.CX P w) 1 I6 fI6 ["self", "given"] (spIni1 K "given"))
    {C7 I7 : Addr} {fI7 : FuncData} (E_InvalidFounds : ErrT K mg "InvalidFounds" "given" C7 I7 fI7) (I_InvalidFounds : FnOk P w K mg base (L2N.CX P w) 1 I7 fI7 ["self", "given"] (spIni1 K "given"))
    {C8 I8 : Addr} {fI8 : FuncData} (E_InvalidCount : ErrT K mg "InvalidCount" "given" C8 I8 fI8) (I_InvalidCount : FnOk P w K mg base (L2N.CX P w) 1 I8 fI8 ["self", "given"] (spIni1 K "given"))
    {C9 I9 : Addr} {fI9 : FuncData} (E_InvalidCounts : ErrT K mg "InvalidCounts" "given" C9 I9 fI9) (I_InvalidCounts : FnOk P w K mg base (L2N.CX P w) 1 I9 fI9 ["self", "given"] (spIni1 K "given"))
    {C10 I10 : Addr} {fI10 : FuncData} (E_InvalidLater : ErrT K mg "InvalidLater" "given" C10 I10 fI10) (I_InvalidLater : FnOk P w K mg base (L2N.CX P w) 1 I10 fI10 ["self", "given"] (spIni1 K "given"))
    {C11 I11 : Addr} {fI11 : FuncData} (E_InvalidIndex : ErrT K mg "InvalidIndex" "given" C11 I11 fI11) (I_InvalidIndex : FnOk P w K mg base (L2N.CX P w) 1 I11 fI11 ["self", "given"] (spIni1 K "given"))
    {C12 I12 : Addr} {fI12 : FuncData} (E_InvalidReaders : ErrT K mg "InvalidReaders" "given" C12 I12 fI12) (I_InvalidReaders : FnOk P w K mg base (L2N.CX P w) 1 I12 fI12 ["self", "given"] (spIni1 K "given"))
    {C13 I13 : Addr} {fI13 : FuncData} (E_InvalidMap : ErrT K mg "InvalidMap" "given" C13 I13 fI13) (I_InvalidMap : FnOk P w K mg base (L2N.CX P w) 1 I13 fI13 ["self", "given"] (spIni1 K "given"))
    {C14 I14 : Addr} {fI14 : FuncData} (E_InvalidLot : ErrT K mg "InvalidLot" "given" C14 I14 fI14) (I_InvalidLot : FnOk P w K mg base (L2N.CX P w) 1 I14 fI14 ["self", "given"] (spIni1 K "given"))
    {C15 I15 : Addr} {fI15 : FuncData} (E_InvalidSeats : ErrT K mg "InvalidSeats" "given" C15 I15 fI15) (I_InvalidSeats : FnOk P w K mg base (L2N.CX P w) 1 I15 fI15 ["self", "given"] (spIni1 K "given"))
    {C16 I16 : Addr} {fI16 : FuncData} (E_InvalidName : ErrT K mg "InvalidName" "given" C16 I16 fI16) (I_InvalidName : FnOk P w K mg base (L2N.CX P w) 1 I16 fI16 ["self", "given"] (spIni1 K "given"))
    {C17 I17 : Addr} {fI17 : FuncData} (E_InvalidOwns : ErrT K mg "InvalidOwns" "given" C17 I17 fI17) (I_InvalidOwns : FnOk P w K mg base (L2N.CX P w) 1 I17 fI17 ["self", "given"] (spIni1 K "given"))
    {C18 I18 : Addr} {fI18 : FuncData} (E_InvalidLines : ErrT K mg "InvalidLines" "given" C18 I18 fI18) (I_InvalidLines : FnOk P w K mg base (L2N.CX P w) 1 I18 fI18 ["self", "given"] (spIni1 K "given"))
    {C19 I19 : Addr} {fI19 : FuncData} (E_InvalidWriters : ErrT K mg "InvalidWriters" "given" C19 I19 fI19) (I_InvalidWriters : FnOk P w K mg base (L2N.CX P w) 1 I19 fI19 ["self", "given"] (spIni1 K "given"))
    {C20 I20 : Addr} {fI20 : FuncData} (E_InvalidRows : ErrT K mg "InvalidRows" "given" C20 I20 fI20) (I_InvalidRows : FnOk P w K mg base (L2N.CX P w) 1 I20 fI20 ["self", "given"] (spIni1 K "given"))
    {C21 I21 : Addr} {fI21 : FuncData} (E_NotJoined : ErrT K mg "NotJoined" "house" C21 I21 fI21) (I_NotJoined : FnOk P w K mg base (L2N.CX P w) 1 I21 fI21 ["self", "house"] (spIni1 K "house"))
    {C22 I22 : Addr} {fI22 : FuncData} (E_Stopped : ErrT K mg "Stopped" "house" C22 I22 fI22) (I_Stopped : FnOk P w K mg base (L2N.CX P w) 1 I22 fI22 ["self", "house"] (spIni1 K "house"))
    {C23 I23 : Addr} {fI23 : FuncData} (E_Refused : ErrT K mg "Refused" "at" C23 I23 fI23) (I_Refused : FnOk P w K mg base (L2N.CX P w) 1 I23 fI23 ["self", "at"] (spIni1 K "at"))
    {C24 I24 : Addr} {fI24 : FuncData} (E_Ringed : ErrT K mg "Ringed" "names" C24 I24 fI24) (I_Ringed : FnOk P w K mg base (L2N.CX P w) 1 I24 fI24 ["self", "names"] (spIni1 K "names"))
    {C25 I25 : Addr} {fI25 : FuncData} (E_NoRow : ErrT K mg "NoRow" "names" C25 I25 fI25) (I_NoRow : FnOk P w K mg base (L2N.CX P w) 1 I25 fI25 ["self", "names"] (spIni1 K "names"))
    {C26 I26 : Addr} {fI26 : FuncData} (E_NotTwo : ErrT K mg "NotTwo" "many" C26 I26 fI26) (I_NotTwo : FnOk P w K mg base (L2N.CX P w) 1 I26 fI26 ["self", "many"] (spIni1 K "many"))
    {C27 I27 : Addr} {fI27 : FuncData} (E_Nobodys : ErrT K mg "Nobodys" "picture" C27 I27 fI27) (I_Nobodys : FnOk P w K mg base (L2N.CX P w) 1 I27 fI27 ["self", "picture"] (spIni1 K "picture"))
    {C28 I28 : Addr} {fI28 : FuncData} (E_Crossed : ErrT K mg "Crossed" "cross" C28 I28 fI28) (I_Crossed : FnOk P w K mg base (L2N.CX P w) 1 I28 fI28 ["self", "cross"] (spIni1 K "cross"))
    {C29 I29 : Addr} {fI29 : FuncData} (E_NotWhole : ErrT K mg "NotWhole" "reader" C29 I29 fI29) (I_NotWhole : FnOk P w K mg base (L2N.CX P w) 1 I29 fI29 ["self", "reader"] (spIni1 K "reader"))
    {C30 I30 : Addr} {fI30 : FuncData} (E_Fitless : ErrT K mg "Fitless" "picture" C30 I30 fI30) (I_Fitless : FnOk P w K mg base (L2N.CX P w) 1 I30 fI30 ["self", "picture"] (spIni1 K "picture"))
    {C31 I31 : Addr} {fI31 : FuncData} (E_Clash : ErrT K mg "Clash" "reader" C31 I31 fI31) (I_Clash : FnOk P w K mg base (L2N.CX P w) 1 I31 fI31 ["self", "reader"] (spIni1 K "reader"))
    {C32 I32 : Addr} {fI32 : FuncData} (E_TooMany : ErrT K mg "TooMany" "count" C32 I32 fI32) (I_TooMany : FnOk P w K mg base (L2N.CX P w) 1 I32 fI32 ["self", "count"] (spIni1 K "count"))
    {C33 I33 : Addr} {fI33 : FuncData} (E_NoLetter : ErrT K mg "NoLetter" "k" C33 I33 fI33) (I_NoLetter : FnOk P w K mg base (L2N.CX P w) 1 I33 fI33 ["self", "k"] (spIni1 K "k")) :
    FnG P w K mg base (L2N.CX P w) 3 f fd ["thing"] (spD K (pm_ones K [C0, C1, C2, C3, C4, C5, C6, C7, C8, C9, C10, C11, C12, C13, C14, C15, C16, C17, C18, C19, C20, C21, C22, C23, C24, C25, C26, C27, C28, C29, C30, C31, C32, C33])) := by
  refine fn_dl F sc__law_by_name (fun ds ms Pd X h => by obtain ⟨_, rfl, _⟩ := h; rfl) (fun cdv Ar outer s H E hr hq => ?_)
  have tk := (L2N.takes_of (X := cxOf (L2N.CX P w) P w K mg base ["thing", "found"] "_law_by_name" (defScope s__law_by_name) f cdv Ar outer s H E) (E := E) rfl rfl rfl rfl)
  refine ⟨_, (pss_cons (ps_set (i := 1) sc__law_by_name.nd rfl (by first | exact Or.inl rfl | exact Or.inr rfl) (pe_lst (pa_cons (pe_newEK0 E_InvalidLine.t.o E_InvalidLine.i E_InvalidLine.ti I_InvalidLine (hr.mono (by decide)) E_InvalidLine.kA passE rfl E_InvalidLine.m (pk_cons (pv 0) pk_nil)) (pa_cons (pe_newEK0 E_InvalidText.t.o E_InvalidText.i E_InvalidText.ti I_InvalidText (hr.mono (by decide)) E_InvalidText.kA passE rfl E_InvalidText.m (pk_cons (pv 0) pk_nil)) (pa_cons (pe_newEK0 E_InvalidHouses.t.o E_InvalidHouses.i E_InvalidHouses.ti I_InvalidHouses (hr.mono (by decide)) E_InvalidHouses.kA passE rfl E_InvalidHouses.m (pk_cons (pv 0) pk_nil)) pa_nil))))) (pss_cons (ps_set (i := 1) sc__law_by_name.nd rfl (by first | exact Or.inl rfl | exact Or.inr rfl) (pe_op op_addA (pv 1) (pe_lst (pa_cons (pe_newEK0 E_InvalidRoads.t.o E_InvalidRoads.i E_InvalidRoads.ti I_InvalidRoads (hr.mono (by decide)) E_InvalidRoads.kA passE rfl E_InvalidRoads.m (pk_cons (pv 0) pk_nil)) (pa_cons (pe_newEK0 E_InvalidHouse.t.o E_InvalidHouse.i E_InvalidHouse.ti I_InvalidHouse (hr.mono (by decide)) E_InvalidHouse.kA passE rfl E_InvalidHouse.m (pk_cons (pv 0) pk_nil)) (pa_cons (pe_newEK0 E_InvalidNames.t.o E_InvalidNames.i E_InvalidNames.ti I_InvalidNames (hr.mono (by decide)) E_InvalidNames.kA passE rfl E_InvalidNames.m (pk_cons (pv 0) pk_nil)) pa_nil)))))) (pss_cons (ps_set (i := 1) sc__law_by_name.nd rfl (by first | exact Or.inl rfl | exact Or.inr rfl) (pe_op op_addA (pv 1) (pe_lst (pa_cons (pe_newEK0 E_InvalidScript.t.o E_InvalidScript.i E_InvalidScript.ti I_InvalidScript (hr.mono (by decide)) E_InvalidScript.kA passE rfl E_InvalidScript.m (pk_cons (pv 0) pk_nil)) (pa_cons (pe_newEK0 E_InvalidFounds.t.o E_InvalidFounds.i E_InvalidFounds.ti I_InvalidFounds (hr.mono (by decide)) E_InvalidFounds.kA passE rfl E_InvalidFounds.m (pk_cons (pv 0) pk_nil)) (pa_cons (pe_newEK0 E_InvalidCount.t.o E_InvalidCount.i E_InvalidCount.ti I_InvalidCount (hr.mono (by decide)) E_InvalidCount.kA passE rfl E_InvalidCount.m (pk_cons (pv 0) pk_nil)) pa_nil)))))) (pss_cons (ps_set (i := 1) sc__law_by_name.nd rfl (by first | exact Or.inl rfl | exact Or.inr rfl) (pe_op op_addA (pv 1) (pe_lst (pa_cons (pe_newEK0 E_InvalidCounts.t.o E_InvalidCounts.i E_InvalidCounts.ti I_InvalidCounts (hr.mono (by decide)) E_InvalidCounts.kA passE rfl E_InvalidCounts.m (pk_cons (pv 0) pk_nil)) (pa_cons (pe_newEK0 E_InvalidLater.t.o E_InvalidLater.i E_InvalidLater.ti I_InvalidLater (hr.mono (by decide)) E_InvalidLater.kA passE rfl E_InvalidLater.m (pk_cons (pv 0) pk_nil)) (pa_cons (pe_newEK0 E_InvalidIndex.t.o E_InvalidIndex.i E_InvalidIndex.ti I_InvalidIndex (hr.mono (by decide)) E_InvalidIndex.kA passE rfl E_InvalidIndex.m (pk_cons (pv 0) pk_nil)) pa_nil)))))) (pss_cons (ps_set (i := 1) sc__law_by_name.nd rfl (by first | exact Or.inl rfl | exact Or.inr rfl) (pe_op op_addA (pv 1) (pe_lst (pa_cons (pe_newEK0 E_InvalidReaders.t.o E_InvalidReaders.i E_InvalidReaders.ti I_InvalidReaders (hr.mono (by decide)) E_InvalidReaders.kA passE rfl E_InvalidReaders.m (pk_cons (pv 0) pk_nil)) (pa_cons (pe_newEK0 E_InvalidMap.t.o E_InvalidMap.i E_InvalidMap.ti I_InvalidMap (hr.mono (by decide)) E_InvalidMap.kA passE rfl E_InvalidMap.m (pk_cons (pv 0) pk_nil)) (pa_cons (pe_newEK0 E_InvalidLot.t.o E_InvalidLot.i E_InvalidLot.ti I_InvalidLot (hr.mono (by decide)) E_InvalidLot.kA passE rfl E_InvalidLot.m (pk_cons (pv 0) pk_nil)) pa_nil)))))) (pss_cons (ps_set (i := 1) sc__law_by_name.nd rfl (by first | exact Or.inl rfl | exact Or.inr rfl) (pe_op op_addA (pv 1) (pe_lst (pa_cons (pe_newEK0 E_InvalidSeats.t.o E_InvalidSeats.i E_InvalidSeats.ti I_InvalidSeats (hr.mono (by decide)) E_InvalidSeats.kA passE rfl E_InvalidSeats.m (pk_cons (pv 0) pk_nil)) (pa_cons (pe_newEK0 E_InvalidName.t.o E_InvalidName.i E_InvalidName.ti I_InvalidName (hr.mono (by decide)) E_InvalidName.kA passE rfl E_InvalidName.m (pk_cons (pv 0) pk_nil)) (pa_cons (pe_newEK0 E_InvalidOwns.t.o E_InvalidOwns.i E_InvalidOwns.ti I_InvalidOwns (hr.mono (by decide)) E_InvalidOwns.kA passE rfl E_InvalidOwns.m (pk_cons (pv 0) pk_nil)) pa_nil)))))) (pss_cons (ps_set (i := 1) sc__law_by_name.nd rfl (by first | exact Or.inl rfl | exact Or.inr rfl) (pe_op op_addA (pv 1) (pe_lst (pa_cons (pe_newEK0 E_InvalidLines.t.o E_InvalidLines.i E_InvalidLines.ti I_InvalidLines (hr.mono (by decide)) E_InvalidLines.kA passE rfl E_InvalidLines.m (pk_cons (pv 0) pk_nil)) (pa_cons (pe_newEK0 E_InvalidWriters.t.o E_InvalidWriters.i E_InvalidWriters.ti I_InvalidWriters (hr.mono (by decide)) E_InvalidWriters.kA passE rfl E_InvalidWriters.m (pk_cons (pv 0) pk_nil)) (pa_cons (pe_newEK0 E_InvalidRows.t.o E_InvalidRows.i E_InvalidRows.ti I_InvalidRows (hr.mono (by decide)) E_InvalidRows.kA passE rfl E_InvalidRows.m (pk_cons (pv 0) pk_nil)) pa_nil)))))) (pss_cons (ps_set (i := 1) sc__law_by_name.nd rfl (by first | exact Or.inl rfl | exact Or.inr rfl) (pe_op op_addA (pv 1) (pe_lst (pa_cons (pe_newEK0 E_NotJoined.t.o E_NotJoined.i E_NotJoined.ti I_NotJoined (hr.mono (by decide)) E_NotJoined.kA passE rfl E_NotJoined.m (pk_cons (pv 0) pk_nil)) (pa_cons (pe_newEK0 E_Stopped.t.o E_Stopped.i E_Stopped.ti I_Stopped (hr.mono (by decide)) E_Stopped.kA passE rfl E_Stopped.m (pk_cons (pv 0) pk_nil)) (pa_cons (pe_newEK0 E_Refused.t.o E_Refused.i E_Refused.ti I_Refused (hr.mono (by decide)) E_Refused.kA passE rfl E_Refused.m (pk_cons (pv 0) pk_nil)) (pa_cons (pe_newEK0 E_Ringed.t.o E_Ringed.i E_Ringed.ti I_Ringed (hr.mono (by decide)) E_Ringed.kA passE rfl E_Ringed.m (pk_cons (pv 0) pk_nil)) pa_nil))))))) (pss_cons (ps_set (i := 1) sc__law_by_name.nd rfl (by first | exact Or.inl rfl | exact Or.inr rfl) (pe_op op_addA (pv 1) (pe_lst (pa_cons (pe_newEK0 E_NoRow.t.o E_NoRow.i E_NoRow.ti I_NoRow (hr.mono (by decide)) E_NoRow.kA passE rfl E_NoRow.m (pk_cons (pv 0) pk_nil)) (pa_cons (pe_newEK0 E_NotTwo.t.o E_NotTwo.i E_NotTwo.ti I_NotTwo (hr.mono (by decide)) E_NotTwo.kA passE rfl E_NotTwo.m (pk_cons (pv 0) pk_nil)) (pa_cons (pe_newEK0 E_Nobodys.t.o E_Nobodys.i E_Nobodys.ti I_Nobodys (hr.mono (by decide)) E_Nobodys.kA passE rfl E_Nobodys.m (pk_cons (pv 0) pk_nil)) (pa_cons (pe_newEK0 E_Crossed.t.o E_Crossed.i E_Crossed.ti I_Crossed (hr.mono (by decide)) E_Crossed.kA passE rfl E_Crossed.m (pk_cons (pv 0) pk_nil)) pa_nil))))))) (pss_cons (ps_set (i := 1) sc__law_by_name.nd rfl (by first | exact Or.inl rfl | exact Or.inr rfl) (pe_op op_addA (pv 1) (pe_lst (pa_cons (pe_newEK0 E_NotWhole.t.o E_NotWhole.i E_NotWhole.ti I_NotWhole (hr.mono (by decide)) E_NotWhole.kA passE rfl E_NotWhole.m (pk_cons (pv 0) pk_nil)) (pa_cons (pe_newEK0 E_Fitless.t.o E_Fitless.i E_Fitless.ti I_Fitless (hr.mono (by decide)) E_Fitless.kA passE rfl E_Fitless.m (pk_cons (pv 0) pk_nil)) (pa_cons (pe_newEK0 E_Clash.t.o E_Clash.i E_Clash.ti I_Clash (hr.mono (by decide)) E_Clash.kA passE rfl E_Clash.m (pk_cons (pv 0) pk_nil)) pa_nil)))))) (pss_one (ps_ret (pe_op op_addA (pv 1) (pe_lst (pa_cons (pe_newEK0 E_TooMany.t.o E_TooMany.i E_TooMany.ti I_TooMany (hr.mono (by decide)) E_TooMany.kA passE rfl E_TooMany.m (pk_cons (pv 0) pk_nil)) (pa_cons (pe_newEK0 E_NoLetter.t.o E_NoLetter.i E_NoLetter.ti I_NoLetter (hr.mono (by decide)) E_NoLetter.kA passE rfl E_NoLetter.m (pk_cons (pv 0) pk_nil)) pa_nil)))))))))))))))), ?_⟩
  try simp only [cxK]
  rintro _ ms Pd Xd ⟨d, rfl, q⟩ bl mb
  refine ds_seq (ds_set ?_)
  refine de_lst ?_
  refine da_cons (de_newEK1 ord_app E_InvalidLine.t.o E_InvalidLine.no (da_nil (da_cons (de_var rfl (da_nil ⟨⟨rfl, Nat.zero_le _⟩, _, rfl, ?_⟩)))))
  refine da_cons (de_newEK1 ord_app E_InvalidText.t.o E_InvalidText.no (da_nil (da_cons (de_var rfl (da_nil ⟨⟨rfl, Nat.zero_le _⟩, _, rfl, ?_⟩)))))
  refine da_cons (de_newEK1 ord_app E_InvalidHouses.t.o E_InvalidHouses.no (da_nil (da_cons (de_var rfl (da_nil ⟨⟨rfl, Nat.zero_le _⟩, _, rfl, ?_⟩)))))
  refine da_nil ⟨by simp only [List.length_cons, List.length_nil]; omega, ?_⟩
  refine ds_seq (ds_set ?_)
  refine de_op (de_var rfl ?_)
  refine de_lst ?_
  refine da_cons (de_newEK1 ord_app E_InvalidRoads.t.o E_InvalidRoads.no (da_nil (da_cons (de_var rfl (da_nil ⟨⟨rfl, Nat.zero_le _⟩, _, rfl, ?_⟩)))))
  refine da_cons (de_newEK1 ord_app E_InvalidHouse.t.o E_InvalidHouse.no (da_nil (da_cons (de_var rfl (da_nil ⟨⟨rfl, Nat.zero_le _⟩, _, rfl, ?_⟩)))))
  refine da_cons (de_newEK1 ord_app E_InvalidNames.t.o E_InvalidNames.no (da_nil (da_cons (de_var rfl (da_nil ⟨⟨rfl, Nat.zero_le _⟩, _, rfl, ?_⟩)))))
  refine da_nil ⟨by simp only [List.length_cons, List.length_nil]; omega, ?_⟩
  refine d2_addL (by simp) ?_
  refine ds_seq (ds_set ?_)
  refine de_op (de_var rfl ?_)
  refine de_lst ?_
  refine da_cons (de_newEK1 ord_app E_InvalidScript.t.o E_InvalidScript.no (da_nil (da_cons (de_var rfl (da_nil ⟨⟨rfl, Nat.zero_le _⟩, _, rfl, ?_⟩)))))
  refine da_cons (de_newEK1 ord_app E_InvalidFounds.t.o E_InvalidFounds.no (da_nil (da_cons (de_var rfl (da_nil ⟨⟨rfl, Nat.zero_le _⟩, _, rfl, ?_⟩)))))
  refine da_cons (de_newEK1 ord_app E_InvalidCount.t.o E_InvalidCount.no (da_nil (da_cons (de_var rfl (da_nil ⟨⟨rfl, Nat.zero_le _⟩, _, rfl, ?_⟩)))))
  refine da_nil ⟨by simp only [List.length_cons, List.length_nil]; omega, ?_⟩
  refine d2_addL (by simp) ?_
  refine ds_seq (ds_set ?_)
  refine de_op (de_var rfl ?_)
  refine de_lst ?_
  refine da_cons (de_newEK1 ord_app E_InvalidCounts.t.o E_InvalidCounts.no (da_nil (da_cons (de_var rfl (da_nil ⟨⟨rfl, Nat.zero_le _⟩, _, rfl, ?_⟩)))))
  refine da_cons (de_newEK1 ord_app E_InvalidLater.t.o E_InvalidLater.no (da_nil (da_cons (de_var rfl (da_nil ⟨⟨rfl, Nat.zero_le _⟩, _, rfl, ?_⟩)))))
  refine da_cons (de_newEK1 ord_app E_InvalidIndex.t.o E_InvalidIndex.no (da_nil (da_cons (de_var rfl (da_nil ⟨⟨rfl, Nat.zero_le _⟩, _, rfl, ?_⟩)))))
  refine da_nil ⟨by simp only [List.length_cons, List.length_nil]; omega, ?_⟩
  refine d2_addL (by simp) ?_
  refine ds_seq (ds_set ?_)
  refine de_op (de_var rfl ?_)
  refine de_lst ?_
  refine da_cons (de_newEK1 ord_app E_InvalidReaders.t.o E_InvalidReaders.no (da_nil (da_cons (de_var rfl (da_nil ⟨⟨rfl, Nat.zero_le _⟩, _, rfl, ?_⟩)))))
  refine da_cons (de_newEK1 ord_app E_InvalidMap.t.o E_InvalidMap.no (da_nil (da_cons (de_var rfl (da_nil ⟨⟨rfl, Nat.zero_le _⟩, _, rfl, ?_⟩)))))
  refine da_cons (de_newEK1 ord_app E_InvalidLot.t.o E_InvalidLot.no (da_nil (da_cons (de_var rfl (da_nil ⟨⟨rfl, Nat.zero_le _⟩, _, rfl, ?_⟩)))))
  refine da_nil ⟨by simp only [List.length_cons, List.length_nil]; omega, ?_⟩
  refine d2_addL (by simp) ?_
  refine ds_seq (ds_set ?_)
  refine de_op (de_var rfl ?_)
  refine de_lst ?_
  refine da_cons (de_newEK1 ord_app E_InvalidSeats.t.o E_InvalidSeats.no (da_nil (da_cons (de_var rfl (da_nil ⟨⟨rfl, Nat.zero_le _⟩, _, rfl, ?_⟩)))))
  refine da_cons (de_newEK1 ord_app E_InvalidName.t.o E_InvalidName.no (da_nil (da_cons (de_var rfl (da_nil ⟨⟨rfl, Nat.zero_le _⟩, _, rfl, ?_⟩)))))
  refine da_cons (de_newEK1 ord_app E_InvalidOwns.t.o E_InvalidOwns.no (da_nil (da_cons (de_var rfl (da_nil ⟨⟨rfl, Nat.zero_le _⟩, _, rfl, ?_⟩)))))
  refine da_nil ⟨by simp only [List.length_cons, List.length_nil]; omega, ?_⟩
  refine d2_addL (by simp) ?_
  refine ds_seq (ds_set ?_)
  refine de_op (de_var rfl ?_)
  refine de_lst ?_
  refine da_cons (de_newEK1 ord_app E_InvalidLines.t.o E_InvalidLines.no (da_nil (da_cons (de_var rfl (da_nil ⟨⟨rfl, Nat.zero_le _⟩, _, rfl, ?_⟩)))))
  refine da_cons (de_newEK1 ord_app E_InvalidWriters.t.o E_InvalidWriters.no (da_nil (da_cons (de_var rfl (da_nil ⟨⟨rfl, Nat.zero_le _⟩, _, rfl, ?_⟩)))))
  refine da_cons (de_newEK1 ord_app E_InvalidRows.t.o E_InvalidRows.no (da_nil (da_cons (de_var rfl (da_nil ⟨⟨rfl, Nat.zero_le _⟩, _, rfl, ?_⟩)))))
  refine da_nil ⟨by simp only [List.length_cons, List.length_nil]; omega, ?_⟩
  refine d2_addL (by simp) ?_
  refine ds_seq (ds_set ?_)
  refine de_op (de_var rfl ?_)
  refine de_lst ?_
  refine da_cons (de_newEK1 ord_app E_NotJoined.t.o E_NotJoined.no (da_nil (da_cons (de_var rfl (da_nil ⟨⟨rfl, Nat.zero_le _⟩, _, rfl, ?_⟩)))))
  refine da_cons (de_newEK1 ord_app E_Stopped.t.o E_Stopped.no (da_nil (da_cons (de_var rfl (da_nil ⟨⟨rfl, Nat.zero_le _⟩, _, rfl, ?_⟩)))))
  refine da_cons (de_newEK1 ord_app E_Refused.t.o E_Refused.no (da_nil (da_cons (de_var rfl (da_nil ⟨⟨rfl, Nat.zero_le _⟩, _, rfl, ?_⟩)))))
  refine da_cons (de_newEK1 ord_app E_Ringed.t.o E_Ringed.no (da_nil (da_cons (de_var rfl (da_nil ⟨⟨rfl, Nat.zero_le _⟩, _, rfl, ?_⟩)))))
  refine da_nil ⟨by simp only [List.length_cons, List.length_nil]; omega, ?_⟩
  refine d2_addL (by simp) ?_
  refine ds_seq (ds_set ?_)
  refine de_op (de_var rfl ?_)
  refine de_lst ?_
  refine da_cons (de_newEK1 ord_app E_NoRow.t.o E_NoRow.no (da_nil (da_cons (de_var rfl (da_nil ⟨⟨rfl, Nat.zero_le _⟩, _, rfl, ?_⟩)))))
  refine da_cons (de_newEK1 ord_app E_NotTwo.t.o E_NotTwo.no (da_nil (da_cons (de_var rfl (da_nil ⟨⟨rfl, Nat.zero_le _⟩, _, rfl, ?_⟩)))))
  refine da_cons (de_newEK1 ord_app E_Nobodys.t.o E_Nobodys.no (da_nil (da_cons (de_var rfl (da_nil ⟨⟨rfl, Nat.zero_le _⟩, _, rfl, ?_⟩)))))
  refine da_cons (de_newEK1 ord_app E_Crossed.t.o E_Crossed.no (da_nil (da_cons (de_var rfl (da_nil ⟨⟨rfl, Nat.zero_le _⟩, _, rfl, ?_⟩)))))
  refine da_nil ⟨by simp only [List.length_cons, List.length_nil]; omega, ?_⟩
  refine d2_addL (by simp) ?_
  refine ds_seq (ds_set ?_)
  refine de_op (de_var rfl ?_)
  refine de_lst ?_
  refine da_cons (de_newEK1 ord_app E_NotWhole.t.o E_NotWhole.no (da_nil (da_cons (de_var rfl (da_nil ⟨⟨rfl, Nat.zero_le _⟩, _, rfl, ?_⟩)))))
  refine da_cons (de_newEK1 ord_app E_Fitless.t.o E_Fitless.no (da_nil (da_cons (de_var rfl (da_nil ⟨⟨rfl, Nat.zero_le _⟩, _, rfl, ?_⟩)))))
  refine da_cons (de_newEK1 ord_app E_Clash.t.o E_Clash.no (da_nil (da_cons (de_var rfl (da_nil ⟨⟨rfl, Nat.zero_le _⟩, _, rfl, ?_⟩)))))
  refine da_nil ⟨by simp only [List.length_cons, List.length_nil]; omega, ?_⟩
  refine d2_addL (by simp) ?_
  refine ds_ret ?_
  refine de_op (de_var rfl ?_)
  refine de_lst ?_
  refine da_cons (de_newEK1 ord_app E_TooMany.t.o E_TooMany.no (da_nil (da_cons (de_var rfl (da_nil ⟨⟨rfl, Nat.zero_le _⟩, _, rfl, ?_⟩)))))
  refine da_cons (de_newEK1 ord_app E_NoLetter.t.o E_NoLetter.no (da_nil (da_cons (de_var rfl (da_nil ⟨⟨rfl, Nat.zero_le _⟩, _, rfl, ?_⟩)))))
  refine da_nil ⟨by simp only [List.length_cons, List.length_nil]; omega, ?_⟩
  refine d2_addL (by simp) ?_
  exact .inl q
end
end K00
namespace K00
open PySem PySem.Spec PyProof.Rows L2 DL
local macro_rules | `(tactic| walk_at "hyp") => `(tactic| (first
  | (simp only [Bool.not_eq_true', Bool.not_eq_false', decide_eq_true_eq, decide_eq_false_iff_not, Bool.or_eq_true, Bool.and_eq_true, Bool.or_eq_false_iff, Bool.not_true, Bool.not_false, Bool.and_eq_false_iff] at *)
  | skip))
local macro_rules | `(tactic| walk_at "d1") => `(tactic| first
  | with_reducible refine ds_seq ?_
  | with_reducible refine ds_if ?_
  | with_reducible refine ds_ret ?_
  | with_reducible refine ds_set ?_
  | with_reducible refine ds_drop ?_
  | with_reducible refine ds_par ?_
  | with_reducible refine ds_par3 ?_
  | with_reducible refine ds_next ?_
  | with_reducible refine de_var rfl ?_
  | with_reducible refine de_int ?_
  | with_reducible refine de_str ?_
  | with_reducible refine de_bl ?_
  | with_reducible refine de_non ?_
  | with_reducible refine de_ty ?_
  | with_reducible refine de_ref ?_
  | with_reducible refine de_op ?_
  | with_reducible refine de_chain ?_
  | with_reducible refine de_un ?_
  | with_reducible refine de_dnew ?_
  | with_reducible refine de_disp1 ?_
  | with_reducible refine de_cb ?_
  | with_reducible refine de_bm ?_
  | with_reducible refine de_sl ?_
  | with_reducible refine de_tup ?_
  | with_reducible refine de_lst ?_
  | with_reducible refine de_fstr ?_
  | with_reducible refine de_fmtS ?_
  | with_reducible refine dj_cons ?_
  | with_reducible refine dj_nil ?_
  | with_reducible refine do_none ?_
  | with_reducible refine do_some ?_
  | with_reducible refine de_g0 (dds := []) (fun _ => .nil) ?_
  | with_reducible refine de_g (dds := []) (fun _ => .nil) ?_
  | with_reducible refine de_lc ?_
  | with_reducible refine di_str ?_
  | with_reducible refine di_tup ?_
  | with_reducible refine de_notV ?_
  | with_reducible refine de_andV ?_
  | with_reducible refine de_orV ?_
  | with_reducible refine de_if ?_
  | with_reducible refine dt_test ?_
  | with_reducible refine dt_B ?_
  | with_reducible refine dt_and ?_
  | with_reducible refine dt_or ?_
  | with_reducible refine dt_not ?_
  | with_reducible refine dt_yes ?_
  | with_reducible refine da_cons ?_
  | with_reducible refine da_nil ?_
  | with_reducible refine d2_leI ?_
  | with_reducible refine d2_ltI ?_
  | with_reducible refine d2_geI ?_
  | with_reducible refine d2_gtI ?_
  | with_reducible refine d2_addI ?_
  | with_reducible refine d2_sub ?_
  | ((with_reducible refine' d2_leS1 (sign1_cps _) ?hs1 ?_); (case hs1 => first | exact sg_a | exact sg_z | exact sg_sp | exact sg_ti))
  | ((with_reducible refine' d2_leS1 ?hs1 (sign1_cps _) ?_); (case hs1 => first | exact sg_a | exact sg_z | exact sg_sp | exact sg_ti))
  | with_reducible refine dr_int ?_
  | with_reducible refine dr_abs ?_
  | with_reducible refine dg_sub ?_
  | ((with_reducible refine' d2_ix ?hsq ?hix ?_); (case hsq => assumption); (case hix => rfl))
  | ((with_reducible refine' d2_mod ?hmod ?_); (case hmod => first | decide | omega))
  | ((with_reducible refine' d2_mul ?hmul ?_); (case hmul => exact mul_ok (by omega) (by omega)))
  | ((with_reducible refine' d2_div ?hdiv ?_); (case hdiv => exact div_ok (by first | decide | omega) (by omega)))
  | ((with_reducible refine' d2_pow ?hpow ?_); (case hpow => exact pow_ok (by decide) (by decide) (by omega)))
  | with_reducible refine d2_notI ?_
  | with_reducible refine d2_notSt ?_
  | with_reducible refine d2_notNn ?_
  | with_reducible refine d2_notT ?_
  | with_reducible refine d2_isI ?_
  | with_reducible refine d2_isNn ?_
  | with_reducible refine d2_isT ?_
  | with_reducible refine d2_neI ?_
  | with_reducible refine d2_eqI ?_
  | with_reducible refine d2_eqS ?_
  | with_reducible refine d2_neS ?_
  | with_reducible refine dr_isiK (by assumption) (by decide) (by first | assumption | exact isTyD_str _ | exact isTyD_tup _ | rfl) ?_
  | with_reducible refine dr_lenT ?_
  | with_reducible refine dr_lenL ?_
  | with_reducible refine dr_lenR ?_
  | with_reducible refine dr_lenC (by assumption) ?_
  | with_reducible refine ds_to ?_
  | with_reducible refine dg_name (by decide) ?_
  | with_reducible refine dg_tup2 ?_
  | with_reducible refine dg_tup3 ?_
  | with_reducible refine dg_tup4 ?_
  | with_reducible refine dgs_cons ?_
  | with_reducible refine dgs_nil ?_
  | with_reducible refine dr_lenS (by omega) ?_
  | with_reducible refine ⟨⟨by simp only [List.length_cons, List.length_nil], by simp only [List.length_cons, List.length_nil]; omega⟩, ?_⟩
  | with_reducible refine ⟨_, rfl, ?_⟩
  | with_reducible refine ⟨_, _, rfl, ?_⟩
  | with_reducible refine ⟨tyD_str, ?_⟩
  | with_reducible refine ⟨by omega, ?_⟩
  | with_reducible refine ⟨by (simp only [PySem.Str.length_append, len_empty, len_sp, List.length_cons, List.length_nil, List.length_append]; omega), ?_⟩
  | with_reducible refine bothT ?_
  | with_reducible refine bothF ?_
  | with_reducible refine bothNT ?_
  | with_reducible refine bothNF ?_
  | (with_reducible refine both (fun hc => ?_) (fun hc => ?_) <;> (try simp only [Bool.not_eq_true', Bool.not_eq_false', decide_eq_true_eq, decide_eq_false_iff_not] at hc) <;> (try (exfalso; omega)) <;> (try exact absurd rfl hc) <;> (try exact absurd trivial hc)))

local macro_rules | `(tactic| walk_at "sm") => `(tactic| first
  | with_reducible refine di_lst ?_
  | with_reducible refine as_lst ?_
  | ((with_reducible refine' d2_addSm ?hs1 ?hs2 ?hs3 (fun hs => ?_)); (case hs1 => assumption); (case hs2 => assumption); (case hs3 => omega))
  | ((with_reducible refine' d2_addL ?hal ?_); (case hal => (simp; try omega)))
  | with_reducible refine d1_neg ?_)

abbrev s__law_twos : Stmt := (topS 46)
theorem sc__law_twos : FnScope ["one", "other", "way", "found"] ["one", "other", "way"] (defScope s__law_twos) := ⟨rfl, rfl, rfl, by decide +kernel, rfl, by decide +kernel, by decide +kernel⟩
section
variable {P : Program} {w : World} {K : PySem.W.Frag} {mg : Str → Option Value} {base : Heap}
def twosD (A B C D : Addr) (d d2 : Dat) : List Dat := [.exc A [("v", d2), ("u", d)], .exc B [("text", d2), ("house", d)], .exc C [("v", d2), ("u", d)], .exc D [("lines", d2), ("road", d)]]
def pm_twos (K : PySem.W.Frag) (A B C D : Addr) : Pm := fun ds ms P X => ∃ (d d2 : Dat) (way : Int), ds = [d, d2, .int way] ∧ P (.lst (twosD A B C D d d2)) ms
theorem ok_twos {f : Addr} {fd : FuncData} (F : Fun K "_law_twos" "_law_twos" s__law_twos f fd) (T : Txt K mg)
    {C0 I0 : Addr} {fI0 : FuncData} (E_NotARoad : ErrT2 K mg "NotARoad" "u" "v" C0 I0 fI0) (I_NotARoad : FnOk P w K mg base (L2N.CX P w) 1 I0 fI0 ["self", "u", "v"] (spIni2 K "u" "v"))
    {C1 I1 : Addr} {fI1 : FuncData} (E_Twice : ErrT2 K mg "Twice" "house" "text" C1 I1 fI1) (I_Twice : FnOk P w K mg base (L2N.CX P w) 1 I1 fI1 ["self", "house", "text"] (spIni2 K "house" "text"))
    {C2 I2 : Addr} {fI2 : FuncData} (E_NothingUnderWay : ErrT2 K mg "NothingUnderWay" "u" "v" C2 I2 fI2) (I_NothingUnderWay : FnOk P w K mg base (L2N.CX P w) 1 I2 fI2 ["self", "u", "v"] (spIni2 K "u" "v"))
    {C3 I3 : Addr} {fI3 : FuncData} (E_NotRight : ErrT2 K mg "NotRight" "road" "lines" C3 I3 fI3) (I_NotRight : FnOk P w K mg base (L2N.CX P w) 1 I3 fI3 ["self", "road", "lines"] (spIni2 K "road" "lines")) :
    FnG P w K mg base (L2N.CX P w) 3 f fd ["one", "other", "way"] (spD K (pm_twos K C0 C1 C2 C3)) := by
  refine fn_dl F sc__law_twos (fun ds ms Pd X h => by obtain ⟨_, _, _, rfl, _⟩ := h; rfl) (fun cdv Ar outer s H E hr hq => ?_)
  have tk := (L2N.takes_of (X := cxOf (L2N.CX P w) P w K mg base ["one", "other", "way", "found"] "_law_twos" (defScope s__law_twos) f cdv Ar outer s H E) (E := E) rfl rfl rfl rfl)
  refine ⟨_, (pss_cons (ps_if (pt_cmpR (opK (K := K) (r := rEqA) rfl (op_eqA hr.units)) (pv 2) pe_int (nomark _)) (pss_one (ps_ret (pe_lst (pa_cons (pe_newE E_NotARoad.t.o E_NotARoad.i E_NotARoad.ti I_NotARoad (hr.mono (by decide)) E_NotARoad.b passE rfl E_NotARoad.m (pa_cons (pv 0) (pa_cons (pv 1) pa_nil))) (pa_cons (pe_newE E_Twice.t.o E_Twice.i E_Twice.ti I_Twice (hr.mono (by decide)) E_Twice.b passE rfl E_Twice.m (pa_cons (pv 0) (pa_cons (pv 1) pa_nil))) (pa_cons (pe_newE E_NothingUnderWay.t.o E_NothingUnderWay.i E_NothingUnderWay.ti I_NothingUnderWay (hr.mono (by decide)) E_NothingUnderWay.b passE rfl E_NothingUnderWay.m (pa_cons (pv 0) (pa_cons (pv 1) pa_nil))) (pa_cons (pe_newE E_NotRight.t.o E_NotRight.i E_NotRight.ti I_NotRight (hr.mono (by decide)) E_NotRight.b passE rfl E_NotRight.m (pa_cons (pv 0) (pa_cons (pv 1) pa_nil))) pa_nil))))))) pss_nil) (pss_cons (ps_if (pt_cmpR (opK (K := K) (r := rEqA) rfl (op_eqA hr.units)) (pv 2) pe_int (nomark _)) (pss_cons (ps_set (i := 3) sc__law_twos.nd rfl (by first | exact Or.inl rfl | exact Or.inr rfl) (pe_lst (pa_cons (pe_newEK0 E_NotARoad.t.o E_NotARoad.i E_NotARoad.ti I_NotARoad (hr.mono (by decide)) E_NotARoad.kA passE rfl E_NotARoad.m (pk_cons (pv 0) (pk_cons (pv 1) pk_nil))) (pa_cons (pe_newEK0 E_Twice.t.o E_Twice.i E_Twice.ti I_Twice (hr.mono (by decide)) E_Twice.kA passE rfl E_Twice.m (pk_cons (pv 0) (pk_cons (pv 1) pk_nil))) (pa_cons (pe_newEK0 E_NothingUnderWay.t.o E_NothingUnderWay.i E_NothingUnderWay.ti I_NothingUnderWay (hr.mono (by decide)) E_NothingUnderWay.kA passE rfl E_NothingUnderWay.m (pk_cons (pv 0) (pk_cons (pv 1) pk_nil))) pa_nil))))) (pss_one (ps_ret (pe_op op_addA (pv 3) (pe_lst (pa_cons (pe_newEK0 E_NotRight.t.o E_NotRight.i E_NotRight.ti I_NotRight (hr.mono (by decide)) E_NotRight.kA passE rfl E_NotRight.m (pk_cons (pv 0) (pk_cons (pv 1) pk_nil))) pa_nil)))))) pss_nil) (pss_cons (ps_if (pt_cmpR (opK (K := K) (r := rEqA) rfl (op_eqA hr.units)) (pv 2) pe_int (nomark _)) (pss_cons (ps_set (i := 3) sc__law_twos.nd rfl (by first | exact Or.inl rfl | exact Or.inr rfl) (pe_lst (pa_cons (pe_newEK0 E_NotARoad.t.o E_NotARoad.i E_NotARoad.ti I_NotARoad (hr.mono (by decide)) E_NotARoad.kR passE rfl E_NotARoad.m (pk_cons (pv 1) (pk_cons (pv 0) pk_nil))) (pa_cons (pe_newEK0 E_Twice.t.o E_Twice.i E_Twice.ti I_Twice (hr.mono (by decide)) E_Twice.kR passE rfl E_Twice.m (pk_cons (pv 1) (pk_cons (pv 0) pk_nil))) (pa_cons (pe_newEK0 E_NothingUnderWay.t.o E_NothingUnderWay.i E_NothingUnderWay.ti I_NothingUnderWay (hr.mono (by decide)) E_NothingUnderWay.kR passE rfl E_NothingUnderWay.m (pk_cons (pv 1) (pk_cons (pv 0) pk_nil))) pa_nil))))) (pss_one (ps_ret (pe_op op_addA (pv 3) (pe_lst (pa_cons (pe_newEK0 E_NotRight.t.o E_NotRight.i E_NotRight.ti I_NotRight (hr.mono (by decide)) E_NotRight.kR passE rfl E_NotRight.m (pk_cons (pv 1) (pk_cons (pv 0) pk_nil))) pa_nil)))))) pss_nil) (pss_cons (ps_set (i := 3) sc__law_twos.nd rfl (by first | exact Or.inl rfl | exact Or.inr rfl) (pe_lst (pa_cons (pe_newEK E_NotARoad.t.o E_NotARoad.i E_NotARoad.ti I_NotARoad (hr.mono (by decide)) E_NotARoad.kP passE rfl E_NotARoad.m (pa_cons (pv 0) pa_nil) (pk_cons (pv 1) pk_nil)) (pa_cons (pe_newEK E_Twice.t.o E_Twice.i E_Twice.ti I_Twice (hr.mono (by decide)) E_Twice.kP passE rfl E_Twice.m (pa_cons (pv 0) pa_nil) (pk_cons (pv 1) pk_nil)) (pa_cons (pe_newEK E_NothingUnderWay.t.o E_NothingUnderWay.i E_NothingUnderWay.ti I_NothingUnderWay (hr.mono (by decide)) E_NothingUnderWay.kP passE rfl E_NothingUnderWay.m (pa_cons (pv 0) pa_nil) (pk_cons (pv 1) pk_nil)) pa_nil))))) (pss_one (ps_ret (pe_op op_addA (pv 3) (pe_lst (pa_cons (pe_newEK E_NotRight.t.o E_NotRight.i E_NotRight.ti I_NotRight (hr.mono (by decide)) E_NotRight.kP passE rfl E_NotRight.m (pa_cons (pv 0) pa_nil) (pk_cons (pv 1) pk_nil)) pa_nil))))))))), ?_⟩
  try simp only [cxK]
  rintro _ ms Pd Xd ⟨d, d2, way, rfl, q⟩ bl mb
  repeat' first
    | walk_at "d1"
    | walk_at "sm"
    | (with_reducible refine de_newE2 E_NotARoad.t.o E_NotARoad.no E_NotARoad.ng ?_)
    | (with_reducible refine de_newE2 E_Twice.t.o E_Twice.no E_Twice.ng ?_)
    | (with_reducible refine de_newE2 E_NothingUnderWay.t.o E_NothingUnderWay.no E_NothingUnderWay.ng ?_)
    | (with_reducible refine de_newE2 E_NotRight.t.o E_NotRight.no E_NotRight.ng ?_)
    | (with_reducible refine de_newEK2 ord_app E_NotARoad.t.o E_NotARoad.no E_NotARoad.ng ?_)
    | (with_reducible refine de_newEK2 ord_rev E_NotARoad.t.o E_NotARoad.no E_NotARoad.ng ?_)
    | (with_reducible refine de_newEK2 ord_app E_Twice.t.o E_Twice.no E_Twice.ng ?_)
    | (with_reducible refine de_newEK2 ord_rev E_Twice.t.o E_Twice.no E_Twice.ng ?_)
    | (with_reducible refine de_newEK2 ord_app E_NothingUnderWay.t.o E_NothingUnderWay.no E_NothingUnderWay.ng ?_)
    | (with_reducible refine de_newEK2 ord_rev E_NothingUnderWay.t.o E_NothingUnderWay.no E_NothingUnderWay.ng ?_)
    | (with_reducible refine de_newEK2 ord_app E_NotRight.t.o E_NotRight.no E_NotRight.ng ?_)
    | (with_reducible refine de_newEK2 ord_rev E_NotRight.t.o E_NotRight.no E_NotRight.ng ?_)
  all_goals exact .inl q
end
end K00
namespace K00
open PySem PySem.Spec PyProof.Rows L2 DL
local macro_rules | `(tactic| walk_at "hyp") => `(tactic| (first
  | (simp only [Bool.not_eq_true', Bool.not_eq_false', decide_eq_true_eq, decide_eq_false_iff_not, Bool.or_eq_true, Bool.and_eq_true, Bool.or_eq_false_iff, Bool.not_true, Bool.not_false, Bool.and_eq_false_iff] at *)
  | skip))
local macro_rules | `(tactic| walk_at "d1") => `(tactic| first
  | with_reducible refine ds_seq ?_
  | with_reducible refine ds_if ?_
  | with_reducible refine ds_ret ?_
  | with_reducible refine ds_set ?_
  | with_reducible refine ds_drop ?_
  | with_reducible refine ds_par ?_
  | with_reducible refine ds_par3 ?_
  | with_reducible refine ds_next ?_
  | with_reducible refine de_var rfl ?_
  | with_reducible refine de_int ?_
  | with_reducible refine de_str ?_
  | with_reducible refine de_bl ?_
  | with_reducible refine de_non ?_
  | with_reducible refine de_ty ?_
  | with_reducible refine de_ref ?_
  | with_reducible refine de_op ?_
  | with_reducible refine de_chain ?_
  | with_reducible refine de_un ?_
  | with_reducible refine de_dnew ?_
  | with_reducible refine de_disp1 ?_
  | with_reducible refine de_cb ?_
  | with_reducible refine de_bm ?_
  | with_reducible refine de_sl ?_
  | with_reducible refine de_tup ?_
  | with_reducible refine de_lst ?_
  | with_reducible refine de_fstr ?_
  | with_reducible refine de_fmtS ?_
  | with_reducible refine dj_cons ?_
  | with_reducible refine dj_nil ?_
  | with_reducible refine do_none ?_
  | with_reducible refine do_some ?_
  | with_reducible refine de_g0 (dds := []) (fun _ => .nil) ?_
  | with_reducible refine de_g (dds := []) (fun _ => .nil) ?_
  | with_reducible refine de_lc ?_
  | with_reducible refine di_str ?_
  | with_reducible refine di_tup ?_
  | with_reducible refine de_notV ?_
  | with_reducible refine de_andV ?_
  | with_reducible refine de_orV ?_
  | with_reducible refine de_if ?_
  | with_reducible refine dt_test ?_
  | with_reducible refine dt_B ?_
  | with_reducible refine dt_and ?_
  | with_reducible refine dt_or ?_
  | with_reducible refine dt_not ?_
  | with_reducible refine dt_yes ?_
  | with_reducible refine da_cons ?_
  | with_reducible refine da_nil ?_
  | with_reducible refine d2_leI ?_
  | with_reducible refine d2_ltI ?_
  | with_reducible refine d2_geI ?_
  | with_reducible refine d2_gtI ?_
  | with_reducible refine d2_addI ?_
  | with_reducible refine d2_sub ?_
  | ((with_reducible refine' d2_leS1 (sign1_cps _) ?hs1 ?_); (case hs1 => first | exact sg_a | exact sg_z | exact sg_sp | exact sg_ti))
  | ((with_reducible refine' d2_leS1 ?hs1 (sign1_cps _) ?_); (case hs1 => first | exact sg_a | exact sg_z | exact sg_sp | exact sg_ti))
  | with_reducible refine dr_int ?_
  | with_reducible refine dr_abs ?_
  | with_reducible refine dg_sub ?_
  | ((with_reducible refine' d2_ix ?hsq ?hix ?_); (case hsq => assumption); (case hix => rfl))
  | ((with_reducible refine' d2_mod ?hmod ?_); (case hmod => first | decide | omega))
  | ((with_reducible refine' d2_mul ?hmul ?_); (case hmul => exact mul_ok (by omega) (by omega)))
  | ((with_reducible refine' d2_div ?hdiv ?_); (case hdiv => exact div_ok (by first | decide | omega) (by omega)))
  | ((with_reducible refine' d2_pow ?hpow ?_); (case hpow => exact pow_ok (by decide) (by decide) (by omega)))
  | with_reducible refine d2_notI ?_
  | with_reducible refine d2_notSt ?_
  | with_reducible refine d2_notNn ?_
  | with_reducible refine d2_notT ?_
  | with_reducible refine d2_isI ?_
  | with_reducible refine d2_isNn ?_
  | with_reducible refine d2_isT ?_
  | with_reducible refine d2_neI ?_
  | with_reducible refine d2_eqI ?_
  | with_reducible refine d2_eqS ?_
  | with_reducible refine d2_neS ?_
  | with_reducible refine dr_isiK (by assumption) (by decide) (by first | assumption | exact isTyD_str _ | exact isTyD_tup _ | rfl) ?_
  | with_reducible refine dr_lenT ?_
  | with_reducible refine dr_lenL ?_
  | with_reducible refine dr_lenR ?_
  | with_reducible refine dr_lenC (by assumption) ?_
  | with_reducible refine ds_to ?_
  | with_reducible refine dg_name (by decide) ?_
  | with_reducible refine dg_tup2 ?_
  | with_reducible refine dg_tup3 ?_
  | with_reducible refine dg_tup4 ?_
  | with_reducible refine dgs_cons ?_
  | with_reducible refine dgs_nil ?_
  | with_reducible refine dr_lenS (by omega) ?_
  | with_reducible refine ⟨⟨by simp only [List.length_cons, List.length_nil], by simp only [List.length_cons, List.length_nil]; omega⟩, ?_⟩
  | with_reducible refine ⟨_, rfl, ?_⟩
  | with_reducible refine ⟨_, _, rfl, ?_⟩
  | with_reducible refine ⟨tyD_str, ?_⟩
  | with_reducible refine ⟨by omega, ?_⟩
  | with_reducible refine ⟨by (simp only [PySem.Str.length_append, len_empty, len_sp, List.length_cons, List.length_nil, List.length_append]; omega), ?_⟩
  | with_reducible refine bothT ?_
  | with_reducible refine bothF ?_
  | with_reducible refine bothNT ?_
  | with_reducible refine bothNF ?_
  | (with_reducible refine both (fun hc => ?_) (fun hc => ?_) <;> (try simp only [Bool.not_eq_true', Bool.not_eq_false', decide_eq_true_eq, decide_eq_false_iff_not] at hc) <;> (try (exfalso; omega)) <;> (try exact absurd rfl hc) <;> (try exact absurd trivial hc)))

local macro_rules | `(tactic| walk_at "sm") => `(tactic| first
  | with_reducible refine di_lst ?_
  | with_reducible refine as_lst ?_
  | ((with_reducible refine' d2_addSm ?hs1 ?hs2 ?hs3 (fun hs => ?_)); (case hs1 => assumption); (case hs2 => assumption); (case hs3 => omega))
  | ((with_reducible refine' d2_addL ?hal ?_); (case hal => (simp; try omega)))
  | with_reducible refine d1_neg ?_)

abbrev s__law_sorts : Stmt := (topS 47)
theorem sc__law_sorts : FnScope ["e", "found"] ["e"] (defScope s__law_sorts) := ⟨rfl, rfl, rfl, by decide +kernel, rfl, by decide +kernel, by decide +kernel⟩
section
variable {P : Program} {w : World} {K : PySem.W.Frag} {mg : Str → Option Value} {base : Heap}
theorem cxHK {a b c d e f g h i j k l m n o p} {E : XK} : (L2H.cxH a b c d e f g h i j k l m n o E p).K = d := rfl
/-- no built-in's value is of the class -/
def KitNo (K : PySem.W.Frag) (C : Addr) : Prop := ∀ T ∈ (["NoneType", "bool", "int", "str", "list", "tuple", "dict"] : List String), PySem.W.kitOne K (.type T) (.ref C) = some false
/-- the classes of the package: of one base, each an own one -/
structure Cls (K : PySem.W.Frag) (L : Addr) (Cs : List Addr) : Prop where
  t : ∀ D ∈ Cs, ExT K D
  k : ∀ D ∈ Cs, ∀ C ∈ Cs, PySem.W.kitOne K (.ref D) (.ref C) = some (decide (D = C))
  l : ∀ D ∈ Cs, PySem.W.kitOne K (.ref D) (.ref L) = some true
  v : ∀ D ∈ Cs, PySem.W.kitOne K (.ref D) (.type "ValueError") = some true
  nd : Cs.Nodup
  no : ∀ C ∈ L :: Cs, KitNo K C
theorem bt_ValueError : bootBuiltins "ValueError" = some (.type "ValueError") := by decide +kernel
theorem get_nd {α : Type} {l : List α} (nd : l.Nodup) {i j : Nat} {a b : α} (h : l[i]? = some a) (h' : l[j]? = some b) : a = b ↔ i = j := by
  obtain ⟨hi, rfl⟩ := List.getElem?_eq_some_iff.mp h
  obtain ⟨hj, rfl⟩ := List.getElem?_eq_some_iff.mp h'
  exact List.getElem_inj nd
theorem Cls.at {L : Addr} {Cs : List Addr} (h : Cls K L Cs) {i j : Nat} {D C : Addr} (hD : Cs[j]? = some D) (hC : Cs[i]? = some C) : PySem.W.kitOne K (.ref D) (.ref C) = some (decide (j = i)) := by
  rw [h.k D (List.mem_of_getElem? hD) C (List.mem_of_getElem? hC)]
  exact congrArg some (decide_eq_decide.mpr (get_nd h.nd hD hC))
theorem filt_one {β : Type} {j : Nat} (f : Nat → β) : ∀ n, ((List.range n).filter fun i => decide (i = j)).map f = if j < n then [f j] else []
  | 0 => rfl
  | n + 1 => by
    rw [List.range_succ, List.filter_append, List.map_append, filt_one f n]
    by_cases h : n = j
    · subst h
      simp
    · rw [List.filter_cons_of_neg (by simpa using h)]
      by_cases h2 : j < n
      · rw [if_pos h2, if_pos (by omega)]; rfl
      · rw [if_neg h2, if_neg (by omega)]; rfl
theorem d2_eqI1 {ms : Ms} {Q : Dat → Ms → Prop} {a b : Int} {xs : List Dat} (hx : xs = [.int a]) (q : Q (.bl (decide (a = b))) ms) : D2 K (rEqA K) (.lst xs) (.lst [.int b]) ms Q := by
  subst hx
  refine d2_eqD (p := .list [.int a]) (p' := .list [.int b]) (.lst (.cons (.int a) .nil)) (.lst (.cons (.int b) .nil)) (shaped_ints [a]) (shaped_ints [b]) ?_
  have e : PyData.eqv (.list [.int a]) (.list [.int b]) = decide (a = b) := by
    simp [PyData.eqv, PyData.eqvAll]
    rw [Bool.eq_iff_iff]; simp
  rw [e]
  exact q
def pm_sorts (K : PySem.W.Frag) (Cs : List Addr) : Pm := fun ds ms P X => ∃ D fs, ds = [.exc D fs] ∧ D ∈ Cs ∧ P (.lst (Cs.map fun C => .bl (decide (D = C)))) ms
def pmE_sorts (K : PySem.W.Frag) (Cs : List Addr) (a D dd : Addr) : Pm := fun ds ms P X => ∃ fs, ds = [.hot a dd D fs] ∧ D ∈ Cs ∧ P (.lst (Cs.map fun C => .bl (decide (D = C)))) ms
def pm_is (K : PySem.W.Frag) (Cs : List Addr) : Pm := fun ds ms P X => ∃ (D : Addr) (fs : List (Str × Dat)) (j : Nat) (spot : Int), ds = [.exc D fs, .int spot] ∧ Cs[j]? = some D ∧ P (.bl (decide ((j : Int) = spot))) ms
def pmE_is (K : PySem.W.Frag) (Cs : List Addr) (a D dd : Addr) : Pm := fun ds ms P X => ∃ (fs : List (Str × Dat)) (j : Nat) (spot : Int), ds = [.hot a dd D fs, .int spot] ∧ Cs[j]? = some D ∧ P (.bl (decide ((j : Int) = spot))) ms
def pm_kept (K : PySem.W.Frag) (Cs : List Addr) : Pm := fun ds ms P X => ∃ (D : Addr) (f : Str) (d : Dat) (j : Nat), ds = [.exc D [(f, d)]] ∧ Cs[j]? = some D ∧ fields1[j]? = some f ∧ PySem.W.findIn K (.ref D) f = some none ∧ P d ms
def pmE_kept (K : PySem.W.Frag) (Cs : List Addr) (a D dd : Addr) : Pm := fun ds ms P X => ∃ (f : Str) (d : Dat) (j : Nat), ds = [.hot a dd D [(f, d)]] ∧ Cs[j]? = some D ∧ fields1[j]? = some f ∧ PySem.W.findIn K (.ref D) f = some none ∧ P d ms
def fields2 : List (Str × Str) := [(Str.ofString "u", Str.ofString "v"), (Str.ofString "house", Str.ofString "text"), (Str.ofString "u", Str.ofString "v"), (Str.ofString "road", Str.ofString "lines")]
def pm_two (K : PySem.W.Frag) (Cs : List Addr) : Pm := fun ds ms P X => ∃ (D : Addr) (f g : Str) (d d2 : Dat) (j : Nat), ds = [.exc D [(g, d2), (f, d)]] ∧ Cs[34 + j]? = some D ∧ fields2[j]? = some (f, g) ∧ PySem.W.findIn K (.ref D) f = some none ∧ PySem.W.findIn K (.ref D) g = some none ∧ P (.lst [d, d2]) ms
def pmE_two (K : PySem.W.Frag) (Cs : List Addr) (a D dd : Addr) : Pm := fun ds ms P X => ∃ (f g : Str) (d d2 : Dat) (j : Nat), ds = [.hot a dd D [(g, d2), (f, d)]] ∧ Cs[34 + j]? = some D ∧ fields2[j]? = some (f, g) ∧ PySem.W.findIn K (.ref D) f = some none ∧ PySem.W.findIn K (.ref D) g = some none ∧ P (.lst [d, d2]) ms
theorem ok_sorts {f : Addr} {fd : FuncData} {C0 C1 C2 C3 C4 C5 C6 C7 C8 C9 C10 C11 C12 C13 C14 C15 C16 C17 C18 C19 C20 C21 C22 C23 C24 C25 C26 C27 C28 C29 C30 C31 C32 C33 C34 C35 C36 C37 L : Addr} (M_InvalidLine : mg "InvalidLine" = some (.ref C0)) (M_InvalidText : mg "InvalidText" = some (.ref C1)) (M_InvalidHouses : mg "InvalidHouses" = some (.ref C2)) (M_InvalidRoads : mg "InvalidRoads" = some (.ref C3)) (M_InvalidHouse : mg "InvalidHouse" = some (.ref C4)) (M_InvalidNames : mg "InvalidNames" = some (.ref C5)) (M_InvalidScript : mg "InvalidScript" = some (.ref C6)) (M_InvalidFounds : mg "InvalidFounds" = some (.ref C7)) (M_InvalidCount : mg "InvalidCount" = some (.ref C8)) (M_InvalidCounts : mg "InvalidCounts" = some (.ref C9)) (M_InvalidLater : mg "InvalidLater" = some (.ref C10)) (M_InvalidIndex : mg "InvalidIndex" = some (.ref C11)) (M_InvalidReaders : mg "InvalidReaders" = some (.ref C12)) (M_InvalidMap : mg "InvalidMap" = some (.ref C13)) (M_InvalidLot : mg "InvalidLot" = some (.ref C14)) (M_InvalidSeats : mg "InvalidSeats" = some (.ref C15)) (M_InvalidName : mg "InvalidName" = some (.ref C16)) (M_InvalidOwns : mg "InvalidOwns" = some (.ref C17)) (M_InvalidLines : mg "InvalidLines" = some (.ref C18)) (M_InvalidWriters : mg "InvalidWriters" = some (.ref C19)) (M_InvalidRows : mg "InvalidRows" = some (.ref C20)) (M_NotJoined : mg "NotJoined" = some (.ref C21)) (M_Stopped : mg "Stopped" = some (.ref C22)) (M_Refused : mg "Refused" = some (.ref C23)) (M_Ringed : mg "Ringed" = some (.ref C24)) (M_NoRow : mg "NoRow" = some (.ref C25)) (M_NotTwo : mg "NotTwo" = some (.ref C26)) (M_Nobodys : mg "Nobodys" = some (.ref C27)) (M_Crossed : mg "Crossed" = some (.ref C28)) (M_NotWhole : mg "NotWhole" = some (.ref C29)) (M_Fitless : mg "Fitless" = some (.ref C30)) (M_Clash : mg "Clash" = some (.ref C31)) (M_TooMany : mg "TooMany" = some (.ref C32)) (M_NoLetter : mg "NoLetter" = some (.ref C33)) (M_NotARoad : mg "NotARoad" = some (.ref C34)) (M_Twice : mg "Twice" = some (.ref C35)) (M_NothingUnderWay : mg "NothingUnderWay" = some (.ref C36)) (M_NotRight : mg "NotRight" = some (.ref C37)) (M_LostError : mg "LostError" = some (.ref L)) (hC : Cls K L [C0, C1, C2, C3, C4, C5, C6, C7, C8, C9, C10, C11, C12, C13, C14, C15, C16, C17, C18, C19, C20, C21, C22, C23, C24, C25, C26, C27, C28, C29, C30, C31, C32, C33, C34, C35, C36, C37]) (F : Fun K "_law_sorts" "_law_sorts" s__law_sorts f fd) (T : Txt K mg) :
    FnG P w K mg base (L2N.CX P w) 1 f fd ["e"] (spD K (pm_sorts K [C0, C1, C2, C3, C4, C5, C6, C7, C8, C9, C10, C11, C12, C13, C14, C15, C16, C17, C18, C19, C20, C21, C22, C23, C24, C25, C26, C27, C28, C29, C30, C31, C32, C33, C34, C35, C36, C37])) := by
  refine fn_dl F sc__law_sorts (fun ds ms Pd X h => by obtain ⟨_, _, rfl, _⟩ := h; rfl) (fun cdv Ar outer s H E hr hq => ?_)
  have tk := (L2N.takes_of (X := cxOf (L2N.CX P w) P w K mg base ["e", "found"] "_law_sorts" (defScope s__law_sorts) f cdv Ar outer s H E) (E := E) rfl rfl rfl rfl)
  refine ⟨_, (pss_cons (ps_set (i := 1) sc__law_sorts.nd rfl (by first | exact Or.inl rfl | exact Or.inr rfl) (pe_lst (pa_cons (pe_callB (crK (K := K) (r := rIsiX) rfl call_isiX) (by rfl) T.b_isinstance bt_isinstance (pa_cons (pv 0) (pa_cons (pe_glob (v := .ref _) rfl M_InvalidLine rfl) pa_nil))) (pa_cons (pe_callB (crK (K := K) (r := rIsiX) rfl call_isiX) (by rfl) T.b_isinstance bt_isinstance (pa_cons (pv 0) (pa_cons (pe_glob (v := .ref _) rfl M_InvalidText rfl) pa_nil))) (pa_cons (pe_callB (crK (K := K) (r := rIsiX) rfl call_isiX) (by rfl) T.b_isinstance bt_isinstance (pa_cons (pv 0) (pa_cons (pe_glob (v := .ref _) rfl M_InvalidHouses rfl) pa_nil))) pa_nil))))) (pss_cons (ps_set (i := 1) sc__law_sorts.nd rfl (by first | exact Or.inl rfl | exact Or.inr rfl) (pe_op op_addA (pv 1) (pe_lst (pa_cons (pe_callB (crK (K := K) (r := rIsiX) rfl call_isiX) (by rfl) T.b_isinstance bt_isinstance (pa_cons (pv 0) (pa_cons (pe_glob (v := .ref _) rfl M_InvalidRoads rfl) pa_nil))) (pa_cons (pe_callB (crK (K := K) (r := rIsiX) rfl call_isiX) (by rfl) T.b_isinstance bt_isinstance (pa_cons (pv 0) (pa_cons (pe_glob (v := .ref _) rfl M_InvalidHouse rfl) pa_nil))) (pa_cons (pe_callB (crK (K := K) (r := rIsiX) rfl call_isiX) (by rfl) T.b_isinstance bt_isinstance (pa_cons (pv 0) (pa_cons (pe_glob (v := .ref _) rfl M_InvalidNames rfl) pa_nil))) pa_nil)))))) (pss_cons (ps_set (i := 1) sc__law_sorts.nd rfl (by first | exact Or.inl rfl | exact Or.inr rfl) (pe_op op_addA (pv 1) (pe_lst (pa_cons (pe_callB (crK (K := K) (r := rIsiX) rfl call_isiX) (by rfl) T.b_isinstance bt_isinstance (pa_cons (pv 0) (pa_cons (pe_glob (v := .ref _) rfl M_InvalidScript rfl) pa_nil))) (pa_cons (pe_callB (crK (K := K) (r := rIsiX) rfl call_isiX) (by rfl) T.b_isinstance bt_isinstance (pa_cons (pv 0) (pa_cons (pe_glob (v := .ref _) rfl M_InvalidFounds rfl) pa_nil))) (pa_cons (pe_callB (crK (K := K) (r := rIsiX) rfl call_isiX) (by rfl) T.b_isinstance bt_isinstance (pa_cons (pv 0) (pa_cons (pe_glob (v := .ref _) rfl M_InvalidCount rfl) pa_nil))) pa_nil)))))) (pss_cons (ps_set (i := 1) sc__law_sorts.nd rfl (by first | exact Or.inl rfl | exact Or.inr rfl) (pe_op op_addA (pv 1) (pe_lst (pa_cons (pe_callB (crK (K := K) (r := rIsiX) rfl call_isiX) (by rfl) T.b_isinstance bt_isinstance (pa_cons (pv 0) (pa_cons (pe_glob (v := .ref _) rfl M_InvalidCounts rfl) pa_nil))) (pa_cons (pe_callB (crK (K := K) (r := rIsiX) rfl call_isiX) (by rfl) T.b_isinstance bt_isinstance (pa_cons (pv 0) (pa_cons (pe_glob (v := .ref _) rfl M_InvalidLater rfl) pa_nil))) (pa_cons (pe_callB (crK (K := K) (r := rIsiX) rfl call_isiX) (by rfl) T.b_isinstance bt_isinstance (pa_cons (pv 0) (pa_cons (pe_glob (v := .ref _) rfl M_InvalidIndex rfl) pa_nil))) pa_nil)))))) (pss_cons (ps_set (i := 1) sc__law_sorts.nd rfl (by first | exact Or.inl rfl | exact Or.inr rfl) (pe_op op_addA (pv 1) (pe_lst (pa_cons (pe_callB (crK (K := K) (r := rIsiX) rfl call_isiX) (by rfl) T.b_isinstance bt_isinstance (pa_cons (pv 0) (pa_cons (pe_glob (v := .ref _) rfl M_InvalidReaders rfl) pa_nil))) (pa_cons (pe_callB (crK (K := K) (r := rIsiX) rfl call_isiX) (by rfl) T.b_isinstance bt_isinstance (pa_cons (pv 0) (pa_cons (pe_glob (v := .ref _) rfl M_InvalidMap rfl) pa_nil))) (pa_cons (pe_callB (crK (K := K) (r := rIsiX) rfl call_isiX) (by rfl) T.b_isinstance bt_isinstance (pa_cons (pv 0) (pa_cons (pe_glob (v := .ref _) rfl M_InvalidLot rfl) pa_nil))) pa_nil)))))) (pss_cons (ps_set (i := 1) sc__law_sorts.nd rfl (by first | exact Or.inl rfl | exact Or.inr rfl) (pe_op op_addA (pv 1) (pe_lst (pa_cons (pe_callB (crK (K := K) (r := rIsiX) rfl call_isiX) (by rfl) T.b_isinstance bt_isinstance (pa_cons (pv 0) (pa_cons (pe_glob (v := .ref _) rfl M_InvalidSeats rfl) pa_nil))) (pa_cons (pe_callB (crK (K := K) (r := rIsiX) rfl call_isiX) (by rfl) T.b_isinstance bt_isinstance (pa_cons (pv 0) (pa_cons (pe_glob (v := .ref _) rfl M_InvalidName rfl) pa_nil))) (pa_cons (pe_callB (crK (K := K) (r := rIsiX) rfl call_isiX) (by rfl) T.b_isinstance bt_isinstance (pa_cons (pv 0) (pa_cons (pe_glob (v := .ref _) rfl M_InvalidOwns rfl) pa_nil))) pa_nil)))))) (pss_cons (ps_set (i := 1) sc__law_sorts.nd rfl (by first | exact Or.inl rfl | exact Or.inr rfl) (pe_op op_addA (pv 1) (pe_lst (pa_cons (pe_callB (crK (K := K) (r := rIsiX) rfl call_isiX) (by rfl) T.b_isinstance bt_isinstance (pa_cons (pv 0) (pa_cons (pe_glob (v := .ref _) rfl M_InvalidLines rfl) pa_nil))) (pa_cons (pe_callB (crK (K := K) (r := rIsiX) rfl call_isiX) (by rfl) T.b_isinstance bt_isinstance (pa_cons (pv 0) (pa_cons (pe_glob (v := .ref _) rfl M_InvalidWriters rfl) pa_nil))) (pa_cons (pe_callB (crK (K := K) (r := rIsiX) rfl call_isiX) (by rfl) T.b_isinstance bt_isinstance (pa_cons (pv 0) (pa_cons (pe_glob (v := .ref _) rfl M_InvalidRows rfl) pa_nil))) pa_nil)))))) (pss_cons (ps_set (i := 1) sc__law_sorts.nd rfl (by first | exact Or.inl rfl | exact Or.inr rfl) (pe_op op_addA (pv 1) (pe_lst (pa_cons (pe_callB (crK (K := K) (r := rIsiX) rfl call_isiX) (by rfl) T.b_isinstance bt_isinstance (pa_cons (pv 0) (pa_cons (pe_glob (v := .ref _) rfl M_NotJoined rfl) pa_nil))) (pa_cons (pe_callB (crK (K := K) (r := rIsiX) rfl call_isiX) (by rfl) T.b_isinstance bt_isinstance (pa_cons (pv 0) (pa_cons (pe_glob (v := .ref _) rfl M_Stopped rfl) pa_nil))) pa_nil))))) (pss_cons (ps_set (i := 1) sc__law_sorts.nd rfl (by first | exact Or.inl rfl | exact Or.inr rfl) (pe_op op_addA (pv 1) (pe_lst (pa_cons (pe_callB (crK (K := K) (r := rIsiX) rfl call_isiX) (by rfl) T.b_isinstance bt_isinstance (pa_cons (pv 0) (pa_cons (pe_glob (v := .ref _) rfl M_Refused rfl) pa_nil))) (pa_cons (pe_callB (crK (K := K) (r := rIsiX) rfl call_isiX) (by rfl) T.b_isinstance bt_isinstance (pa_cons (pv 0) (pa_cons (pe_glob (v := .ref _) rfl M_Ringed rfl) pa_nil))) (pa_cons (pe_callB (crK (K := K) (r := rIsiX) rfl call_isiX) (by rfl) T.b_isinstance bt_isinstance (pa_cons (pv 0) (pa_cons (pe_glob (v := .ref _) rfl M_NoRow rfl) pa_nil))) pa_nil)))))) (pss_cons (ps_set (i := 1) sc__law_sorts.nd rfl (by first | exact Or.inl rfl | exact Or.inr rfl) (pe_op op_addA (pv 1) (pe_lst (pa_cons (pe_callB (crK (K := K) (r := rIsiX) rfl call_isiX) (by rfl) T.b_isinstance bt_isinstance (pa_cons (pv 0) (pa_cons (pe_glob (v := .ref _) rfl M_NotTwo rfl) pa_nil))) (pa_cons (pe_callB (crK (K := K) (r := rIsiX) rfl call_isiX) (by rfl) T.b_isinstance bt_isinstance (pa_cons (pv 0) (pa_cons (pe_glob (v := .ref _) rfl M_Nobodys rfl) pa_nil))) (pa_cons (pe_callB (crK (K := K) (r := rIsiX) rfl call_isiX) (by rfl) T.b_isinstance bt_isinstance (pa_cons (pv 0) (pa_cons (pe_glob (v := .ref _) rfl M_Crossed rfl) pa_nil))) (pa_cons (pe_callB (crK (K := K) (r := rIsiX) rfl call_isiX) (by rfl) T.b_isinstance bt_isinstance (pa_cons (pv 0) (pa_cons (pe_glob (v := .ref _) rfl M_NotWhole rfl) pa_nil))) pa_nil))))))) (pss_cons (ps_set (i := 1) sc__law_sorts.nd rfl (by first | exact Or.inl rfl | exact Or.inr rfl) (pe_op op_addA (pv 1) (pe_lst (pa_cons (pe_callB (crK (K := K) (r := rIsiX) rfl call_isiX) (by rfl) T.b_isinstance bt_isinstance (pa_cons (pv 0) (pa_cons (pe_glob (v := .ref _) rfl M_Fitless rfl) pa_nil))) (pa_cons (pe_callB (crK (K := K) (r := rIsiX) rfl call_isiX) (by rfl) T.b_isinstance bt_isinstance (pa_cons (pv 0) (pa_cons (pe_glob (v := .ref _) rfl M_Clash rfl) pa_nil))) (pa_cons (pe_callB (crK (K := K) (r := rIsiX) rfl call_isiX) (by rfl) T.b_isinstance bt_isinstance (pa_cons (pv 0) (pa_cons (pe_glob (v := .ref _) rfl M_TooMany rfl) pa_nil))) (pa_cons (pe_callB (crK (K := K) (r := rIsiX) rfl call_isiX) (by rfl) T.b_isinstance bt_isinstance (pa_cons (pv 0) (pa_cons (pe_glob (v := .ref _) rfl M_NoLetter rfl) pa_nil))) pa_nil))))))) (pss_cons (ps_set (i := 1) sc__law_sorts.nd rfl (by first | exact Or.inl rfl | exact Or.inr rfl) (pe_op op_addA (pv 1) (pe_lst (pa_cons (pe_callB (crK (K := K) (r := rIsiX) rfl call_isiX) (by rfl) T.b_isinstance bt_isinstance (pa_cons (pv 0) (pa_cons (pe_glob (v := .ref _) rfl M_NotARoad rfl) pa_nil))) (pa_cons (pe_callB (crK (K := K) (r := rIsiX) rfl call_isiX) (by rfl) T.b_isinstance bt_isinstance (pa_cons (pv 0) (pa_cons (pe_glob (v := .ref _) rfl M_Twice rfl) pa_nil))) (pa_cons (pe_callB (crK (K := K) (r := rIsiX) rfl call_isiX) (by rfl) T.b_isinstance bt_isinstance (pa_cons (pv 0) (pa_cons (pe_glob (v := .ref _) rfl M_NothingUnderWay rfl) pa_nil))) pa_nil)))))) (pss_one (ps_ret (pe_op op_addA (pv 1) (pe_lst (pa_cons (pe_callB (crK (K := K) (r := rIsiX) rfl call_isiX) (by rfl) T.b_isinstance bt_isinstance (pa_cons (pv 0) (pa_cons (pe_glob (v := .ref _) rfl M_NotRight rfl) pa_nil))) pa_nil))))))))))))))))), ?_⟩
  try simp only [cxK]
  rintro _ ms Pd Xd ⟨D, fs, rfl, hD, q⟩ bl mb
  have hT := hC.t _ hD
  refine ds_seq (ds_set ?_)
  refine de_lst ?_
  refine da_cons (de_cb (da_cons (de_var rfl (da_cons (de_ref (da_nil (dr_isiE hT (hC.k _ hD _ (List.mem_of_getElem? (i := 0) rfl)) ?_)))))))
  refine da_cons (de_cb (da_cons (de_var rfl (da_cons (de_ref (da_nil (dr_isiE hT (hC.k _ hD _ (List.mem_of_getElem? (i := 1) rfl)) ?_)))))))
  refine da_cons (de_cb (da_cons (de_var rfl (da_cons (de_ref (da_nil (dr_isiE hT (hC.k _ hD _ (List.mem_of_getElem? (i := 2) rfl)) ?_)))))))
  refine da_nil ⟨by simp only [List.length_cons, List.length_nil]; omega, ?_⟩
  refine ds_seq (ds_set ?_)
  refine de_op (de_var rfl ?_)
  refine de_lst ?_
  refine da_cons (de_cb (da_cons (de_var rfl (da_cons (de_ref (da_nil (dr_isiE hT (hC.k _ hD _ (List.mem_of_getElem? (i := 3) rfl)) ?_)))))))
  refine da_cons (de_cb (da_cons (de_var rfl (da_cons (de_ref (da_nil (dr_isiE hT (hC.k _ hD _ (List.mem_of_getElem? (i := 4) rfl)) ?_)))))))
  refine da_cons (de_cb (da_cons (de_var rfl (da_cons (de_ref (da_nil (dr_isiE hT (hC.k _ hD _ (List.mem_of_getElem? (i := 5) rfl)) ?_)))))))
  refine da_nil ⟨by simp only [List.length_cons, List.length_nil]; omega, ?_⟩
  refine d2_addL (by simp) ?_
  refine ds_seq (ds_set ?_)
  refine de_op (de_var rfl ?_)
  refine de_lst ?_
  refine da_cons (de_cb (da_cons (de_var rfl (da_cons (de_ref (da_nil (dr_isiE hT (hC.k _ hD _ (List.mem_of_getElem? (i := 6) rfl)) ?_)))))))
  refine da_cons (de_cb (da_cons (de_var rfl (da_cons (de_ref (da_nil (dr_isiE hT (hC.k _ hD _ (List.mem_of_getElem? (i := 7) rfl)) ?_)))))))
  refine da_cons (de_cb (da_cons (de_var rfl (da_cons (de_ref (da_nil (dr_isiE hT (hC.k _ hD _ (List.mem_of_getElem? (i := 8) rfl)) ?_)))))))
  refine da_nil ⟨by simp only [List.length_cons, List.length_nil]; omega, ?_⟩
  refine d2_addL (by simp) ?_
  refine ds_seq (ds_set ?_)
  refine de_op (de_var rfl ?_)
  refine de_lst ?_
  refine da_cons (de_cb (da_cons (de_var rfl (da_cons (de_ref (da_nil (dr_isiE hT (hC.k _ hD _ (List.mem_of_getElem? (i := 9) rfl)) ?_)))))))
  refine da_cons (de_cb (da_cons (de_var rfl (da_cons (de_ref (da_nil (dr_isiE hT (hC.k _ hD _ (List.mem_of_getElem? (i := 10) rfl)) ?_)))))))
  refine da_cons (de_cb (da_cons (de_var rfl (da_cons (de_ref (da_nil (dr_isiE hT (hC.k _ hD _ (List.mem_of_getElem? (i := 11) rfl)) ?_)))))))
  refine da_nil ⟨by simp only [List.length_cons, List.length_nil]; omega, ?_⟩
  refine d2_addL (by simp) ?_
  refine ds_seq (ds_set ?_)
  refine de_op (de_var rfl ?_)
  refine de_lst ?_
  refine da_cons (de_cb (da_cons (de_var rfl (da_cons (de_ref (da_nil (dr_isiE hT (hC.k _ hD _ (List.mem_of_getElem? (i := 12) rfl)) ?_)))))))
  refine da_cons (de_cb (da_cons (de_var rfl (da_cons (de_ref (da_nil (dr_isiE hT (hC.k _ hD _ (List.mem_of_getElem? (i := 13) rfl)) ?_)))))))
  refine da_cons (de_cb (da_cons (de_var rfl (da_cons (de_ref (da_nil (dr_isiE hT (hC.k _ hD _ (List.mem_of_getElem? (i := 14) rfl)) ?_)))))))
  refine da_nil ⟨by simp only [List.length_cons, List.length_nil]; omega, ?_⟩
  refine d2_addL (by simp) ?_
  refine ds_seq (ds_set ?_)
  refine de_op (de_var rfl ?_)
  refine de_lst ?_
  refine da_cons (de_cb (da_cons (de_var rfl (da_cons (de_ref (da_nil (dr_isiE hT (hC.k _ hD _ (List.mem_of_getElem? (i := 15) rfl)) ?_)))))))
  refine da_cons (de_cb (da_cons (de_var rfl (da_cons (de_ref (da_nil (dr_isiE hT (hC.k _ hD _ (List.mem_of_getElem? (i := 16) rfl)) ?_)))))))
  refine da_cons (de_cb (da_cons (de_var rfl (da_cons (de_ref (da_nil (dr_isiE hT (hC.k _ hD _ (List.mem_of_getElem? (i := 17) rfl)) ?_)))))))
  refine da_nil ⟨by simp only [List.length_cons, List.length_nil]; omega, ?_⟩
  refine d2_addL (by simp) ?_
  refine ds_seq (ds_set ?_)
  refine de_op (de_var rfl ?_)
  refine de_lst ?_
  refine da_cons (de_cb (da_cons (de_var rfl (da_cons (de_ref (da_nil (dr_isiE hT (hC.k _ hD _ (List.mem_of_getElem? (i := 18) rfl)) ?_)))))))
  refine da_cons (de_cb (da_cons (de_var rfl (da_cons (de_ref (da_nil (dr_isiE hT (hC.k _ hD _ (List.mem_of_getElem? (i := 19) rfl)) ?_)))))))
  refine da_cons (de_cb (da_cons (de_var rfl (da_cons (de_ref (da_nil (dr_isiE hT (hC.k _ hD _ (List.mem_of_getElem? (i := 20) rfl)) ?_)))))))
  refine da_nil ⟨by simp only [List.length_cons, List.length_nil]; omega, ?_⟩
  refine d2_addL (by simp) ?_
  refine ds_seq (ds_set ?_)
  refine de_op (de_var rfl ?_)
  refine de_lst ?_
  refine da_cons (de_cb (da_cons (de_var rfl (da_cons (de_ref (da_nil (dr_isiE hT (hC.k _ hD _ (List.mem_of_getElem? (i := 21) rfl)) ?_)))))))
  refine da_cons (de_cb (da_cons (de_var rfl (da_cons (de_ref (da_nil (dr_isiE hT (hC.k _ hD _ (List.mem_of_getElem? (i := 22) rfl)) ?_)))))))
  refine da_nil ⟨by simp only [List.length_cons, List.length_nil]; omega, ?_⟩
  refine d2_addL (by simp) ?_
  refine ds_seq (ds_set ?_)
  refine de_op (de_var rfl ?_)
  refine de_lst ?_
  refine da_cons (de_cb (da_cons (de_var rfl (da_cons (de_ref (da_nil (dr_isiE hT (hC.k _ hD _ (List.mem_of_getElem? (i := 23) rfl)) ?_)))))))
  refine da_cons (de_cb (da_cons (de_var rfl (da_cons (de_ref (da_nil (dr_isiE hT (hC.k _ hD _ (List.mem_of_getElem? (i := 24) rfl)) ?_)))))))
  refine da_cons (de_cb (da_cons (de_var rfl (da_cons (de_ref (da_nil (dr_isiE hT (hC.k _ hD _ (List.mem_of_getElem? (i := 25) rfl)) ?_)))))))
  refine da_nil ⟨by simp only [List.length_cons, List.length_nil]; omega, ?_⟩
  refine d2_addL (by simp) ?_
  refine ds_seq (ds_set ?_)
  refine de_op (de_var rfl ?_)
  refine de_lst ?_
  refine da_cons (de_cb (da_cons (de_var rfl (da_cons (de_ref (da_nil (dr_isiE hT (hC.k _ hD _ (List.mem_of_getElem? (i := 26) rfl)) ?_)))))))
  refine da_cons (de_cb (da_cons (de_var rfl (da_cons (de_ref (da_nil (dr_isiE hT (hC.k _ hD _ (List.mem_of_getElem? (i := 27) rfl)) ?_)))))))
  refine da_cons (de_cb (da_cons (de_var rfl (da_cons (de_ref (da_nil (dr_isiE hT (hC.k _ hD _ (List.mem_of_getElem? (i := 28) rfl)) ?_)))))))
  refine da_cons (de_cb (da_cons (de_var rfl (da_cons (de_ref (da_nil (dr_isiE hT (hC.k _ hD _ (List.mem_of_getElem? (i := 29) rfl)) ?_)))))))
  refine da_nil ⟨by simp only [List.length_cons, List.length_nil]; omega, ?_⟩
  refine d2_addL (by simp) ?_
  refine ds_seq (ds_set ?_)
  refine de_op (de_var rfl ?_)
  refine de_lst ?_
  refine da_cons (de_cb (da_cons (de_var rfl (da_cons (de_ref (da_nil (dr_isiE hT (hC.k _ hD _ (List.mem_of_getElem? (i := 30) rfl)) ?_)))))))
  refine da_cons (de_cb (da_cons (de_var rfl (da_cons (de_ref (da_nil (dr_isiE hT (hC.k _ hD _ (List.mem_of_getElem? (i := 31) rfl)) ?_)))))))
  refine da_cons (de_cb (da_cons (de_var rfl (da_cons (de_ref (da_nil (dr_isiE hT (hC.k _ hD _ (List.mem_of_getElem? (i := 32) rfl)) ?_)))))))
  refine da_cons (de_cb (da_cons (de_var rfl (da_cons (de_ref (da_nil (dr_isiE hT (hC.k _ hD _ (List.mem_of_getElem? (i := 33) rfl)) ?_)))))))
  refine da_nil ⟨by simp only [List.length_cons, List.length_nil]; omega, ?_⟩
  refine d2_addL (by simp) ?_
  refine ds_seq (ds_set ?_)
  refine de_op (de_var rfl ?_)
  refine de_lst ?_
  refine da_cons (de_cb (da_cons (de_var rfl (da_cons (de_ref (da_nil (dr_isiE hT (hC.k _ hD _ (List.mem_of_getElem? (i := 34) rfl)) ?_)))))))
  refine da_cons (de_cb (da_cons (de_var rfl (da_cons (de_ref (da_nil (dr_isiE hT (hC.k _ hD _ (List.mem_of_getElem? (i := 35) rfl)) ?_)))))))
  refine da_cons (de_cb (da_cons (de_var rfl (da_cons (de_ref (da_nil (dr_isiE hT (hC.k _ hD _ (List.mem_of_getElem? (i := 36) rfl)) ?_)))))))
  refine da_nil ⟨by simp only [List.length_cons, List.length_nil]; omega, ?_⟩
  refine d2_addL (by simp) ?_
  refine ds_ret ?_
  refine de_op (de_var rfl ?_)
  refine de_lst ?_
  refine da_cons (de_cb (da_cons (de_var rfl (da_cons (de_ref (da_nil (dr_isiE hT (hC.k _ hD _ (List.mem_of_getElem? (i := 37) rfl)) ?_)))))))
  refine da_nil ⟨by simp only [List.length_cons, List.length_nil]; omega, ?_⟩
  refine d2_addL (by simp) ?_
  exact .inl q
theorem okE_sorts {f : Addr} {fd : FuncData} {C0 C1 C2 C3 C4 C5 C6 C7 C8 C9 C10 C11 C12 C13 C14 C15 C16 C17 C18 C19 C20 C21 C22 C23 C24 C25 C26 C27 C28 C29 C30 C31 C32 C33 C34 C35 C36 C37 L : Addr} (M_InvalidLine : mg "InvalidLine" = some (.ref C0)) (M_InvalidText : mg "InvalidText" = some (.ref C1)) (M_InvalidHouses : mg "InvalidHouses" = some (.ref C2)) (M_InvalidRoads : mg "InvalidRoads" = some (.ref C3)) (M_InvalidHouse : mg "InvalidHouse" = some (.ref C4)) (M_InvalidNames : mg "InvalidNames" = some (.ref C5)) (M_InvalidScript : mg "InvalidScript" = some (.ref C6)) (M_InvalidFounds : mg "InvalidFounds" = some (.ref C7)) (M_InvalidCount : mg "InvalidCount" = some (.ref C8)) (M_InvalidCounts : mg "InvalidCounts" = some (.ref C9)) (M_InvalidLater : mg "InvalidLater" = some (.ref C10)) (M_InvalidIndex : mg "InvalidIndex" = some (.ref C11)) (M_InvalidReaders : mg "InvalidReaders" = some (.ref C12)) (M_InvalidMap : mg "InvalidMap" = some (.ref C13)) (M_InvalidLot : mg "InvalidLot" = some (.ref C14)) (M_InvalidSeats : mg "InvalidSeats" = some (.ref C15)) (M_InvalidName : mg "InvalidName" = some (.ref C16)) (M_InvalidOwns : mg "InvalidOwns" = some (.ref C17)) (M_InvalidLines : mg "InvalidLines" = some (.ref C18)) (M_InvalidWriters : mg "InvalidWriters" = some (.ref C19)) (M_InvalidRows : mg "InvalidRows" = some (.ref C20)) (M_NotJoined : mg "NotJoined" = some (.ref C21)) (M_Stopped : mg "Stopped" = some (.ref C22)) (M_Refused : mg "Refused" = some (.ref C23)) (M_Ringed : mg "Ringed" = some (.ref C24)) (M_NoRow : mg "NoRow" = some (.ref C25)) (M_NotTwo : mg "NotTwo" = some (.ref C26)) (M_Nobodys : mg "Nobodys" = some (.ref C27)) (M_Crossed : mg "Crossed" = some (.ref C28)) (M_NotWhole : mg "NotWhole" = some (.ref C29)) (M_Fitless : mg "Fitless" = some (.ref C30)) (M_Clash : mg "Clash" = some (.ref C31)) (M_TooMany : mg "TooMany" = some (.ref C32)) (M_NoLetter : mg "NoLetter" = some (.ref C33)) (M_NotARoad : mg "NotARoad" = some (.ref C34)) (M_Twice : mg "Twice" = some (.ref C35)) (M_NothingUnderWay : mg "NothingUnderWay" = some (.ref C36)) (M_NotRight : mg "NotRight" = some (.ref C37)) (M_LostError : mg "LostError" = some (.ref L)) (hC : Cls K L [C0, C1, C2, C3, C4, C5, C6, C7, C8, C9, C10, C11, C12, C13, C14, C15, C16, C17, C18, C19, C20, C21, C22, C23, C24, C25, C26, C27, C28, C29, C30, C31, C32, C33, C34, C35, C36, C37]) (F : Fun K "_law_sorts" "_law_sorts" s__law_sorts f fd) (T : Txt K mg) :
    FnGE P w K mg base (L2N.CX P w) 1 f fd ["e"] (fun a D dd => spD K (pmE_sorts K [C0, C1, C2, C3, C4, C5, C6, C7, C8, C9, C10, C11, C12, C13, C14, C15, C16, C17, C18, C19, C20, C21, C22, C23, C24, C25, C26, C27, C28, C29, C30, C31, C32, C33, C34, C35, C36, C37] a D dd)) := by
  refine fn_dlE F sc__law_sorts (fun a D dd ds ms Pd X h => by obtain ⟨_, rfl, _⟩ := h; rfl) (fun cdv Ar outer s H E p D dd hot hz hrh hq => ?_)
  have hc : L2H.HotC (L2H.cxH (L2N.CX P w) P w K mg base ["e", "found"] "_law_sorts" (defScope s__law_sorts) f cdv Ar outer s H E p) := ⟨p, hot, List.mem_singleton.mpr rfl⟩
  have hun : (Ar.deeper (envOfC "_law_sorts" (defScope s__law_sorts) s.heap.objs.size f cdv)).units + 64 < cLine := by have := hrh.un; omega
  have hf := hotF hot
  refine ⟨_, (pss_cons (ps_set (i := 1) sc__law_sorts.nd rfl (by first | exact Or.inl rfl | exact Or.inr rfl) (pe_lst (pa_cons (pe_callB (crK (K := K) (r := rIsiW p.1 D dd) rfl (call_isiW (List.mem_singleton.mpr rfl) hz hf)) (by rfl) T.b_isinstance bt_isinstance (pa_cons (pv 0) (pa_cons (pe_glob (v := .ref _) rfl M_InvalidLine rfl) pa_nil))) (pa_cons (pe_callB (crK (K := K) (r := rIsiW p.1 D dd) rfl (call_isiW (List.mem_singleton.mpr rfl) hz hf)) (by rfl) T.b_isinstance bt_isinstance (pa_cons (pv 0) (pa_cons (pe_glob (v := .ref _) rfl M_InvalidText rfl) pa_nil))) (pa_cons (pe_callB (crK (K := K) (r := rIsiW p.1 D dd) rfl (call_isiW (List.mem_singleton.mpr rfl) hz hf)) (by rfl) T.b_isinstance bt_isinstance (pa_cons (pv 0) (pa_cons (pe_glob (v := .ref _) rfl M_InvalidHouses rfl) pa_nil))) pa_nil))))) (pss_cons (ps_set (i := 1) sc__law_sorts.nd rfl (by first | exact Or.inl rfl | exact Or.inr rfl) (pe_op op_addA (pv 1) (pe_lst (pa_cons (pe_callB (crK (K := K) (r := rIsiW p.1 D dd) rfl (call_isiW (List.mem_singleton.mpr rfl) hz hf)) (by rfl) T.b_isinstance bt_isinstance (pa_cons (pv 0) (pa_cons (pe_glob (v := .ref _) rfl M_InvalidRoads rfl) pa_nil))) (pa_cons (pe_callB (crK (K := K) (r := rIsiW p.1 D dd) rfl (call_isiW (List.mem_singleton.mpr rfl) hz hf)) (by rfl) T.b_isinstance bt_isinstance (pa_cons (pv 0) (pa_cons (pe_glob (v := .ref _) rfl M_InvalidHouse rfl) pa_nil))) (pa_cons (pe_callB (crK (K := K) (r := rIsiW p.1 D dd) rfl (call_isiW (List.mem_singleton.mpr rfl) hz hf)) (by rfl) T.b_isinstance bt_isinstance (pa_cons (pv 0) (pa_cons (pe_glob (v := .ref _) rfl M_InvalidNames rfl) pa_nil))) pa_nil)))))) (pss_cons (ps_set (i := 1) sc__law_sorts.nd rfl (by first | exact Or.inl rfl | exact Or.inr rfl) (pe_op op_addA (pv 1) (pe_lst (pa_cons (pe_callB (crK (K := K) (r := rIsiW p.1 D dd) rfl (call_isiW (List.mem_singleton.mpr rfl) hz hf)) (by rfl) T.b_isinstance bt_isinstance (pa_cons (pv 0) (pa_cons (pe_glob (v := .ref _) rfl M_InvalidScript rfl) pa_nil))) (pa_cons (pe_callB (crK (K := K) (r := rIsiW p.1 D dd) rfl (call_isiW (List.mem_singleton.mpr rfl) hz hf)) (by rfl) T.b_isinstance bt_isinstance (pa_cons (pv 0) (pa_cons (pe_glob (v := .ref _) rfl M_InvalidFounds rfl) pa_nil))) (pa_cons (pe_callB (crK (K := K) (r := rIsiW p.1 D dd) rfl (call_isiW (List.mem_singleton.mpr rfl) hz hf)) (by rfl) T.b_isinstance bt_isinstance (pa_cons (pv 0) (pa_cons (pe_glob (v := .ref _) rfl M_InvalidCount rfl) pa_nil))) pa_nil)))))) (pss_cons (ps_set (i := 1) sc__law_sorts.nd rfl (by first | exact Or.inl rfl | exact Or.inr rfl) (pe_op op_addA (pv 1) (pe_lst (pa_cons (pe_callB (crK (K := K) (r := rIsiW p.1 D dd) rfl (call_isiW (List.mem_singleton.mpr rfl) hz hf)) (by rfl) T.b_isinstance bt_isinstance (pa_cons (pv 0) (pa_cons (pe_glob (v := .ref _) rfl M_InvalidCounts rfl) pa_nil))) (pa_cons (pe_callB (crK (K := K) (r := rIsiW p.1 D dd) rfl (call_isiW (List.mem_singleton.mpr rfl) hz hf)) (by rfl) T.b_isinstance bt_isinstance (pa_cons (pv 0) (pa_cons (pe_glob (v := .ref _) rfl M_InvalidLater rfl) pa_nil))) (pa_cons (pe_callB (crK (K := K) (r := rIsiW p.1 D dd) rfl (call_isiW (List.mem_singleton.mpr rfl) hz hf)) (by rfl) T.b_isinstance bt_isinstance (pa_cons (pv 0) (pa_cons (pe_glob (v := .ref _) rfl M_InvalidIndex rfl) pa_nil))) pa_nil)))))) (pss_cons (ps_set (i := 1) sc__law_sorts.nd rfl (by first | exact Or.inl rfl | exact Or.inr rfl) (pe_op op_addA (pv 1) (pe_lst (pa_cons (pe_callB (crK (K := K) (r := rIsiW p.1 D dd) rfl (call_isiW (List.mem_singleton.mpr rfl) hz hf)) (by rfl) T.b_isinstance bt_isinstance (pa_cons (pv 0) (pa_cons (pe_glob (v := .ref _) rfl M_InvalidReaders rfl) pa_nil))) (pa_cons (pe_callB (crK (K := K) (r := rIsiW p.1 D dd) rfl (call_isiW (List.mem_singleton.mpr rfl) hz hf)) (by rfl) T.b_isinstance bt_isinstance (pa_cons (pv 0) (pa_cons (pe_glob (v := .ref _) rfl M_InvalidMap rfl) pa_nil))) (pa_cons (pe_callB (crK (K := K) (r := rIsiW p.1 D dd) rfl (call_isiW (List.mem_singleton.mpr rfl) hz hf)) (by rfl) T.b_isinstance bt_isinstance (pa_cons (pv 0) (pa_cons (pe_glob (v := .ref _) rfl M_InvalidLot rfl) pa_nil))) pa_nil)))))) (pss_cons (ps_set (i := 1) sc__law_sorts.nd rfl (by first | exact Or.inl rfl | exact Or.inr rfl) (pe_op op_addA (pv 1) (pe_lst (pa_cons (pe_callB (crK (K := K) (r := rIsiW p.1 D dd) rfl (call_isiW (List.mem_singleton.mpr rfl) hz hf)) (by rfl) T.b_isinstance bt_isinstance (pa_cons (pv 0) (pa_cons (pe_glob (v := .ref _) rfl M_InvalidSeats rfl) pa_nil))) (pa_cons (pe_callB (crK (K := K) (r := rIsiW p.1 D dd) rfl (call_isiW (List.mem_singleton.mpr rfl) hz hf)) (by rfl) T.b_isinstance bt_isinstance (pa_cons (pv 0) (pa_cons (pe_glob (v := .ref _) rfl M_InvalidName rfl) pa_nil))) (pa_cons (pe_callB (crK (K := K) (r := rIsiW p.1 D dd) rfl (call_isiW (List.mem_singleton.mpr rfl) hz hf)) (by rfl) T.b_isinstance bt_isinstance (pa_cons (pv 0) (pa_cons (pe_glob (v := .ref _) rfl M_InvalidOwns rfl) pa_nil))) pa_nil)))))) (pss_cons (ps_set (i := 1) sc__law_sorts.nd rfl (by first | exact Or.inl rfl | exact Or.inr rfl) (pe_op op_addA (pv 1) (pe_lst (pa_cons (pe_callB (crK (K := K) (r := rIsiW p.1 D dd) rfl (call_isiW (List.mem_singleton.mpr rfl) hz hf)) (by rfl) T.b_isinstance bt_isinstance (pa_cons (pv 0) (pa_cons (pe_glob (v := .ref _) rfl M_InvalidLines rfl) pa_nil))) (pa_cons (pe_callB (crK (K := K) (r := rIsiW p.1 D dd) rfl (call_isiW (List.mem_singleton.mpr rfl) hz hf)) (by rfl) T.b_isinstance bt_isinstance (pa_cons (pv 0) (pa_cons (pe_glob (v := .ref _) rfl M_InvalidWriters rfl) pa_nil))) (pa_cons (pe_callB (crK (K := K) (r := rIsiW p.1 D dd) rfl (call_isiW (List.mem_singleton.mpr rfl) hz hf)) (by rfl) T.b_isinstance bt_isinstance (pa_cons (pv 0) (pa_cons (pe_glob (v := .ref _) rfl M_InvalidRows rfl) pa_nil))) pa_nil)))))) (pss_cons (ps_set (i := 1) sc__law_sorts.nd rfl (by first | exact Or.inl rfl | exact Or.inr rfl) (pe_op op_addA (pv 1) (pe_lst (pa_cons (pe_callB (crK (K := K) (r := rIsiW p.1 D dd) rfl (call_isiW (List.mem_singleton.mpr rfl) hz hf)) (by rfl) T.b_isinstance bt_isinstance (pa_cons (pv 0) (pa_cons (pe_glob (v := .ref _) rfl M_NotJoined rfl) pa_nil))) (pa_cons (pe_callB (crK (K := K) (r := rIsiW p.1 D dd) rfl (call_isiW (List.mem_singleton.mpr rfl) hz hf)) (by rfl) T.b_isinstance bt_isinstance (pa_cons (pv 0) (pa_cons (pe_glob (v := .ref _) rfl M_Stopped rfl) pa_nil))) pa_nil))))) (pss_cons (ps_set (i := 1) sc__law_sorts.nd rfl (by first | exact Or.inl rfl | exact Or.inr rfl) (pe_op op_addA (pv 1) (pe_lst (pa_cons (pe_callB (crK (K := K) (r := rIsiW p.1 D dd) rfl (call_isiW (List.mem_singleton.mpr rfl) hz hf)) (by rfl) T.b_isinstance bt_isinstance (pa_cons (pv 0) (pa_cons (pe_glob (v := .ref _) rfl M_Refused rfl) pa_nil))) (pa_cons (pe_callB (crK (K := K) (r := rIsiW p.1 D dd) rfl (call_isiW (List.mem_singleton.mpr rfl) hz hf)) (by rfl) T.b_isinstance bt_isinstance (pa_cons (pv 0) (pa_cons (pe_glob (v := .ref _) rfl M_Ringed rfl) pa_nil))) (pa_cons (pe_callB (crK (K := K) (r := rIsiW p.1 D dd) rfl (call_isiW (List.mem_singleton.mpr rfl) hz hf)) (by rfl) T.b_isinstance bt_isinstance (pa_cons (pv 0) (pa_cons (pe_glob (v := .ref _) rfl M_NoRow rfl) pa_nil))) pa_nil)))))) (pss_cons (ps_set (i := 1) sc__law_sorts.nd rfl (by first | exact Or.inl rfl | exact Or.inr rfl) (pe_op op_addA (pv 1) (pe_lst (pa_cons (pe_callB (crK (K := K) (r := rIsiW p.1 D dd) rfl (call_isiW (List.mem_singleton.mpr rfl) hz hf)) (by rfl) T.b_isinstance bt_isinstance (pa_cons (pv 0) (pa_cons (pe_glob (v := .ref _) rfl M_NotTwo rfl) pa_nil))) (pa_cons (pe_callB (crK (K := K) (r := rIsiW p.1 D dd) rfl (call_isiW (List.mem_singleton.mpr rfl) hz hf)) (by rfl) T.b_isinstance bt_isinstance (pa_cons (pv 0) (pa_cons (pe_glob (v := .ref _) rfl M_Nobodys rfl) pa_nil))) (pa_cons (pe_callB (crK (K := K) (r := rIsiW p.1 D dd) rfl (call_isiW (List.mem_singleton.mpr rfl) hz hf)) (by rfl) T.b_isinstance bt_isinstance (pa_cons (pv 0) (pa_cons (pe_glob (v := .ref _) rfl M_Crossed rfl) pa_nil))) (pa_cons (pe_callB (crK (K := K) (r := rIsiW p.1 D dd) rfl (call_isiW (List.mem_singleton.mpr rfl) hz hf)) (by rfl) T.b_isinstance bt_isinstance (pa_cons (pv 0) (pa_cons (pe_glob (v := .ref _) rfl M_NotWhole rfl) pa_nil))) pa_nil))))))) (pss_cons (ps_set (i := 1) sc__law_sorts.nd rfl (by first | exact Or.inl rfl | exact Or.inr rfl) (pe_op op_addA (pv 1) (pe_lst (pa_cons (pe_callB (crK (K := K) (r := rIsiW p.1 D dd) rfl (call_isiW (List.mem_singleton.mpr rfl) hz hf)) (by rfl) T.b_isinstance bt_isinstance (pa_cons (pv 0) (pa_cons (pe_glob (v := .ref _) rfl M_Fitless rfl) pa_nil))) (pa_cons (pe_callB (crK (K := K) (r := rIsiW p.1 D dd) rfl (call_isiW (List.mem_singleton.mpr rfl) hz hf)) (by rfl) T.b_isinstance bt_isinstance (pa_cons (pv 0) (pa_cons (pe_glob (v := .ref _) rfl M_Clash rfl) pa_nil))) (pa_cons (pe_callB (crK (K := K) (r := rIsiW p.1 D dd) rfl (call_isiW (List.mem_singleton.mpr rfl) hz hf)) (by rfl) T.b_isinstance bt_isinstance (pa_cons (pv 0) (pa_cons (pe_glob (v := .ref _) rfl M_TooMany rfl) pa_nil))) (pa_cons (pe_callB (crK (K := K) (r := rIsiW p.1 D dd) rfl (call_isiW (List.mem_singleton.mpr rfl) hz hf)) (by rfl) T.b_isinstance bt_isinstance (pa_cons (pv 0) (pa_cons (pe_glob (v := .ref _) rfl M_NoLetter rfl) pa_nil))) pa_nil))))))) (pss_cons (ps_set (i := 1) sc__law_sorts.nd rfl (by first | exact Or.inl rfl | exact Or.inr rfl) (pe_op op_addA (pv 1) (pe_lst (pa_cons (pe_callB (crK (K := K) (r := rIsiW p.1 D dd) rfl (call_isiW (List.mem_singleton.mpr rfl) hz hf)) (by rfl) T.b_isinstance bt_isinstance (pa_cons (pv 0) (pa_cons (pe_glob (v := .ref _) rfl M_NotARoad rfl) pa_nil))) (pa_cons (pe_callB (crK (K := K) (r := rIsiW p.1 D dd) rfl (call_isiW (List.mem_singleton.mpr rfl) hz hf)) (by rfl) T.b_isinstance bt_isinstance (pa_cons (pv 0) (pa_cons (pe_glob (v := .ref _) rfl M_Twice rfl) pa_nil))) (pa_cons (pe_callB (crK (K := K) (r := rIsiW p.1 D dd) rfl (call_isiW (List.mem_singleton.mpr rfl) hz hf)) (by rfl) T.b_isinstance bt_isinstance (pa_cons (pv 0) (pa_cons (pe_glob (v := .ref _) rfl M_NothingUnderWay rfl) pa_nil))) pa_nil)))))) (pss_one (ps_ret (pe_op op_addA (pv 1) (pe_lst (pa_cons (pe_callB (crK (K := K) (r := rIsiW p.1 D dd) rfl (call_isiW (List.mem_singleton.mpr rfl) hz hf)) (by rfl) T.b_isinstance bt_isinstance (pa_cons (pv 0) (pa_cons (pe_glob (v := .ref _) rfl M_NotRight rfl) pa_nil))) pa_nil))))))))))))))))), ?_⟩
  try simp only [cxK, cxHK]
  rintro _ ms Pd Xd ⟨fs, rfl, hD, q⟩ bl mb
  have hT := hC.t _ hD
  refine ds_seq (ds_set ?_)
  refine de_lst ?_
  refine da_cons (de_cb (da_cons (de_var rfl (da_cons (de_ref (da_nil (dr_isiWh hT (hC.k _ hD _ (List.mem_of_getElem? (i := 0) rfl)) ?_)))))))
  refine da_cons (de_cb (da_cons (de_var rfl (da_cons (de_ref (da_nil (dr_isiWh hT (hC.k _ hD _ (List.mem_of_getElem? (i := 1) rfl)) ?_)))))))
  refine da_cons (de_cb (da_cons (de_var rfl (da_cons (de_ref (da_nil (dr_isiWh hT (hC.k _ hD _ (List.mem_of_getElem? (i := 2) rfl)) ?_)))))))
  refine da_nil ⟨by simp only [List.length_cons, List.length_nil]; omega, ?_⟩
  refine ds_seq (ds_set ?_)
  refine de_op (de_var rfl ?_)
  refine de_lst ?_
  refine da_cons (de_cb (da_cons (de_var rfl (da_cons (de_ref (da_nil (dr_isiWh hT (hC.k _ hD _ (List.mem_of_getElem? (i := 3) rfl)) ?_)))))))
  refine da_cons (de_cb (da_cons (de_var rfl (da_cons (de_ref (da_nil (dr_isiWh hT (hC.k _ hD _ (List.mem_of_getElem? (i := 4) rfl)) ?_)))))))
  refine da_cons (de_cb (da_cons (de_var rfl (da_cons (de_ref (da_nil (dr_isiWh hT (hC.k _ hD _ (List.mem_of_getElem? (i := 5) rfl)) ?_)))))))
  refine da_nil ⟨by simp only [List.length_cons, List.length_nil]; omega, ?_⟩
  refine d2_addL (by simp) ?_
  refine ds_seq (ds_set ?_)
  refine de_op (de_var rfl ?_)
  refine de_lst ?_
  refine da_cons (de_cb (da_cons (de_var rfl (da_cons (de_ref (da_nil (dr_isiWh hT (hC.k _ hD _ (List.mem_of_getElem? (i := 6) rfl)) ?_)))))))
  refine da_cons (de_cb (da_cons (de_var rfl (da_cons (de_ref (da_nil (dr_isiWh hT (hC.k _ hD _ (List.mem_of_getElem? (i := 7) rfl)) ?_)))))))
  refine da_cons (de_cb (da_cons (de_var rfl (da_cons (de_ref (da_nil (dr_isiWh hT (hC.k _ hD _ (List.mem_of_getElem? (i := 8) rfl)) ?_)))))))
  refine da_nil ⟨by simp only [List.length_cons, List.length_nil]; omega, ?_⟩
  refine d2_addL (by simp) ?_
  refine ds_seq (ds_set ?_)
  refine de_op (de_var rfl ?_)
  refine de_lst ?_
  refine da_cons (de_cb (da_cons (de_var rfl (da_cons (de_ref (da_nil (dr_isiWh hT (hC.k _ hD _ (List.mem_of_getElem? (i := 9) rfl)) ?_)))))))
  refine da_cons (de_cb (da_cons (de_var rfl (da_cons (de_ref (da_nil (dr_isiWh hT (hC.k _ hD _ (List.mem_of_getElem? (i := 10) rfl)) ?_)))))))
  refine da_cons (de_cb (da_cons (de_var rfl (da_cons (de_ref (da_nil (dr_isiWh hT (hC.k _ hD _ (List.mem_of_getElem? (i := 11) rfl)) ?_)))))))
  refine da_nil ⟨by simp only [List.length_cons, List.length_nil]; omega, ?_⟩
  refine d2_addL (by simp) ?_
  refine ds_seq (ds_set ?_)
  refine de_op (de_var rfl ?_)
  refine de_lst ?_
  refine da_cons (de_cb (da_cons (de_var rfl (da_cons (de_ref (da_nil (dr_isiWh hT (hC.k _ hD _ (List.mem_of_getElem? (i := 12) rfl)) ?_)))))))
  refine da_cons (de_cb (da_cons (de_var rfl (da_cons (de_ref (da_nil (dr_isiWh hT (hC.k _ hD _ (List.mem_of_getElem? (i := 13) rfl)) ?_)))))))
  refine da_cons (de_cb (da_cons (de_var rfl (da_cons (de_ref (da_nil (dr_isiWh hT (hC.k _ hD _ (List.mem_of_getElem? (i := 14) rfl)) ?_)))))))
  refine da_nil ⟨by simp only [List.length_cons, List.length_nil]; omega, ?_⟩
  refine d2_addL (by simp) ?_
  refine ds_seq (ds_set ?_)
  refine de_op (de_var rfl ?_)
  refine de_lst ?_
  refine da_cons (de_cb (da_cons (de_var rfl (da_cons (de_ref (da_nil (dr_isiWh hT (hC.k _ hD _ (List.mem_of_getElem? (i := 15) rfl)) ?_)))))))
  refine da_cons (de_cb (da_cons (de_var rfl (da_cons (de_ref (da_nil (dr_isiWh hT (hC.k _ hD _ (List.mem_of_getElem? (i := 16) rfl)) ?_)))))))
  refine da_cons (de_cb (da_cons (de_var rfl (da_cons (de_ref (da_nil (dr_isiWh hT (hC.k _ hD _ (List.mem_of_getElem? (i := 17) rfl)) ?_)))))))
  refine da_nil ⟨by simp only [List.length_cons, List.length_nil]; omega, ?_⟩
  refine d2_addL (by simp) ?_
  refine ds_seq (ds_set ?_)
  refine de_op (de_var rfl ?_)
  refine de_lst ?_
  refine da_cons (de_cb (da_cons (de_var rfl (da_cons (de_ref (da_nil (dr_isiWh hT (hC.k _ hD _ (List.mem_of_getElem? (i := 18) rfl)) ?_)))))))
  refine da_cons (de_cb (da_cons (de_var rfl (da_cons (de_ref (da_nil (dr_isiWh hT (hC.k _ hD _ (List.mem_of_getElem? (i := 19) rfl)) ?_)))))))
  refine da_cons (de_cb (da_cons (de_var rfl (da_cons (de_ref (da_nil (dr_isiWh hT (hC.k _ hD _ (List.mem_of_getElem? (i := 20) rfl)) ?_)))))))
  refine da_nil ⟨by simp only [List.length_cons, List.length_nil]; omega, ?_⟩
  refine d2_addL (by simp) ?_
  refine ds_seq (ds_set ?_)
  refine de_op (de_var rfl ?_)
  refine de_lst ?_
  refine da_cons (de_cb (da_cons (de_var rfl (da_cons (de_ref (da_nil (dr_isiWh hT (hC.k _ hD _ (List.mem_of_getElem? (i := 21) rfl)) ?_)))))))
  refine da_cons (de_cb (da_cons (de_var rfl (da_cons (de_ref (da_nil (dr_isiWh hT (hC.k _ hD _ (List.mem_of_getElem? (i := 22) rfl)) ?_)))))))
  refine da_nil ⟨by simp only [List.length_cons, List.length_nil]; omega, ?_⟩
  refine d2_addL (by simp) ?_
  refine ds_seq (ds_set ?_)
  refine de_op (de_var rfl ?_)
  refine de_lst ?_
  refine da_cons (de_cb (da_cons (de_var rfl (da_cons (de_ref (da_nil (dr_isiWh hT (hC.k _ hD _ (List.mem_of_getElem? (i := 23) rfl)) ?_)))))))
  refine da_cons (de_cb (da_cons (de_var rfl (da_cons (de_ref (da_nil (dr_isiWh hT (hC.k _ hD _ (List.mem_of_getElem? (i := 24) rfl)) ?_)))))))
  refine da_cons (de_cb (da_cons (de_var rfl (da_cons (de_ref (da_nil (dr_isiWh hT (hC.k _ hD _ (List.mem_of_getElem? (i := 25) rfl)) ?_)))))))
  refine da_nil ⟨by simp only [List.length_cons, List.length_nil]; omega, ?_⟩
  refine d2_addL (by simp) ?_
  refine ds_seq (ds_set ?_)
  refine de_op (de_var rfl ?_)
  refine de_lst ?_
  refine da_cons (de_cb (da_cons (de_var rfl (da_cons (de_ref (da_nil (dr_isiWh hT (hC.k _ hD _ (List.mem_of_getElem? (i := 26) rfl)) ?_)))))))
  refine da_cons (de_cb (da_cons (de_var rfl (da_cons (de_ref (da_nil (dr_isiWh hT (hC.k _ hD _ (List.mem_of_getElem? (i := 27) rfl)) ?_)))))))
  refine da_cons (de_cb (da_cons (de_var rfl (da_cons (de_ref (da_nil (dr_isiWh hT (hC.k _ hD _ (List.mem_of_getElem? (i := 28) rfl)) ?_)))))))
  refine da_cons (de_cb (da_cons (de_var rfl (da_cons (de_ref (da_nil (dr_isiWh hT (hC.k _ hD _ (List.mem_of_getElem? (i := 29) rfl)) ?_)))))))
  refine da_nil ⟨by simp only [List.length_cons, List.length_nil]; omega, ?_⟩
  refine d2_addL (by simp) ?_
  refine ds_seq (ds_set ?_)
  refine de_op (de_var rfl ?_)
  refine de_lst ?_
  refine da_cons (de_cb (da_cons (de_var rfl (da_cons (de_ref (da_nil (dr_isiWh hT (hC.k _ hD _ (List.mem_of_getElem? (i := 30) rfl)) ?_)))))))
  refine da_cons (de_cb (da_cons (de_var rfl (da_cons (de_ref (da_nil (dr_isiWh hT (hC.k _ hD _ (List.mem_of_getElem? (i := 31) rfl)) ?_)))))))
  refine da_cons (de_cb (da_cons (de_var rfl (da_cons (de_ref (da_nil (dr_isiWh hT (hC.k _ hD _ (List.mem_of_getElem? (i := 32) rfl)) ?_)))))))
  refine da_cons (de_cb (da_cons (de_var rfl (da_cons (de_ref (da_nil (dr_isiWh hT (hC.k _ hD _ (List.mem_of_getElem? (i := 33) rfl)) ?_)))))))
  refine da_nil ⟨by simp only [List.length_cons, List.length_nil]; omega, ?_⟩
  refine d2_addL (by simp) ?_
  refine ds_seq (ds_set ?_)
  refine de_op (de_var rfl ?_)
  refine de_lst ?_
  refine da_cons (de_cb (da_cons (de_var rfl (da_cons (de_ref (da_nil (dr_isiWh hT (hC.k _ hD _ (List.mem_of_getElem? (i := 34) rfl)) ?_)))))))
  refine da_cons (de_cb (da_cons (de_var rfl (da_cons (de_ref (da_nil (dr_isiWh hT (hC.k _ hD _ (List.mem_of_getElem? (i := 35) rfl)) ?_)))))))
  refine da_cons (de_cb (da_cons (de_var rfl (da_cons (de_ref (da_nil (dr_isiWh hT (hC.k _ hD _ (List.mem_of_getElem? (i := 36) rfl)) ?_)))))))
  refine da_nil ⟨by simp only [List.length_cons, List.length_nil]; omega, ?_⟩
  refine d2_addL (by simp) ?_
  refine ds_ret ?_
  refine de_op (de_var rfl ?_)
  refine de_lst ?_
  refine da_cons (de_cb (da_cons (de_var rfl (da_cons (de_ref (da_nil (dr_isiWh hT (hC.k _ hD _ (List.mem_of_getElem? (i := 37) rfl)) ?_)))))))
  refine da_nil ⟨by simp only [List.length_cons, List.length_nil]; omega, ?_⟩
  refine d2_addL (by simp) ?_
  exact .inl q
end
end K00
namespace K00
open PySem PySem.Spec PyProof.Rows L2 DL
local macro_rules | `(tactic| walk_at "hyp") => `(tactic| (first
  | (simp only [Bool.not_eq_true', Bool.not_eq_false', decide_eq_true_eq, decide_eq_false_iff_not, Bool.or_eq_true, Bool.and_eq_true, Bool.or_eq_false_iff, Bool.not_true, Bool.not_false, Bool.and_eq_false_iff] at *)
  | skip))
local macro_rules | `(tactic| walk_at "d1") => `(tactic| first
  | with_reducible refine ds_seq ?_
  | with_reducible refine ds_if ?_
  | with_reducible refine ds_ret ?_
  | with_reducible refine ds_set ?_
  | with_reducible refine ds_drop ?_
  | with_reducible refine ds_par ?_
  | with_reducible refine ds_par3 ?_
  | with_reducible refine ds_next ?_
  | with_reducible refine de_var rfl ?_
  | with_reducible refine de_int ?_
  | with_reducible refine de_str ?_
  | with_reducible refine de_bl ?_
  | with_reducible refine de_non ?_
  | with_reducible refine de_ty ?_
  | with_reducible refine de_ref ?_
  | with_reducible refine de_op ?_
  | with_reducible refine de_chain ?_
  | with_reducible refine de_un ?_
  | with_reducible refine de_dnew ?_
  | with_reducible refine de_disp1 ?_
  | with_reducible refine de_cb ?_
  | with_reducible refine de_bm ?_
  | with_reducible refine de_sl ?_
  | with_reducible refine de_tup ?_
  | with_reducible refine de_lst ?_
  | with_reducible refine de_fstr ?_
  | with_reducible refine de_fmtS ?_
  | with_reducible refine dj_cons ?_
  | with_reducible refine dj_nil ?_
  | with_reducible refine do_none ?_
  | with_reducible refine do_some ?_
  | with_reducible refine de_g0 (dds := []) (fun _ => .nil) ?_
  | with_reducible refine de_g (dds := []) (fun _ => .nil) ?_
  | with_reducible refine de_lc ?_
  | with_reducible refine di_str ?_
  | with_reducible refine di_tup ?_
  | with_reducible refine de_notV ?_
  | with_reducible refine de_andV ?_
  | with_reducible refine de_orV ?_
  | with_reducible refine de_if ?_
  | with_reducible refine dt_test ?_
  | with_reducible refine dt_B ?_
  | with_reducible refine dt_and ?_
  | with_reducible refine dt_or ?_
  | with_reducible refine dt_not ?_
  | with_reducible refine dt_yes ?_
  | with_reducible refine da_cons ?_
  | with_reducible refine da_nil ?_
  | with_reducible refine d2_leI ?_
  | with_reducible refine d2_ltI ?_
  | with_reducible refine d2_geI ?_
  | with_reducible refine d2_gtI ?_
  | with_reducible refine d2_addI ?_
  | with_reducible refine d2_sub ?_
  | ((with_reducible refine' d2_leS1 (sign1_cps _) ?hs1 ?_); (case hs1 => first | exact sg_a | exact sg_z | exact sg_sp | exact sg_ti))
  | ((with_reducible refine' d2_leS1 ?hs1 (sign1_cps _) ?_); (case hs1 => first | exact sg_a | exact sg_z | exact sg_sp | exact sg_ti))
  | with_reducible refine dr_int ?_
  | with_reducible refine dr_abs ?_
  | with_reducible refine dg_sub ?_
  | ((with_reducible refine' d2_ix ?hsq ?hix ?_); (case hsq => assumption); (case hix => rfl))
  | ((with_reducible refine' d2_mod ?hmod ?_); (case hmod => first | decide | omega))
  | ((with_reducible refine' d2_mul ?hmul ?_); (case hmul => exact mul_ok (by omega) (by omega)))
  | ((with_reducible refine' d2_div ?hdiv ?_); (case hdiv => exact div_ok (by first | decide | omega) (by omega)))
  | ((with_reducible refine' d2_pow ?hpow ?_); (case hpow => exact pow_ok (by decide) (by decide) (by omega)))
  | with_reducible refine d2_notI ?_
  | with_reducible refine d2_notSt ?_
  | with_reducible refine d2_notNn ?_
  | with_reducible refine d2_notT ?_
  | with_reducible refine d2_isI ?_
  | with_reducible refine d2_isNn ?_
  | with_reducible refine d2_isT ?_
  | with_reducible refine d2_neI ?_
  | with_reducible refine d2_eqI ?_
  | with_reducible refine d2_eqS ?_
  | with_reducible refine d2_neS ?_
  | with_reducible refine dr_isiK (by assumption) (by decide) (by first | assumption | exact isTyD_str _ | exact isTyD_tup _ | rfl) ?_
  | with_reducible refine dr_lenT ?_
  | with_reducible refine dr_lenL ?_
  | with_reducible refine dr_lenR ?_
  | with_reducible refine dr_lenC (by assumption) ?_
  | with_reducible refine ds_to ?_
  | with_reducible refine dg_name (by decide) ?_
  | with_reducible refine dg_tup2 ?_
  | with_reducible refine dg_tup3 ?_
  | with_reducible refine dg_tup4 ?_
  | with_reducible refine dgs_cons ?_
  | with_reducible refine dgs_nil ?_
  | with_reducible refine dr_lenS (by omega) ?_
  | with_reducible refine ⟨⟨by simp only [List.length_cons, List.length_nil], by simp only [List.length_cons, List.length_nil]; omega⟩, ?_⟩
  | with_reducible refine ⟨_, rfl, ?_⟩
  | with_reducible refine ⟨_, _, rfl, ?_⟩
  | with_reducible refine ⟨tyD_str, ?_⟩
  | with_reducible refine ⟨by omega, ?_⟩
  | with_reducible refine ⟨by (simp only [PySem.Str.length_append, len_empty, len_sp, List.length_cons, List.length_nil, List.length_append]; omega), ?_⟩
  | with_reducible refine bothT ?_
  | with_reducible refine bothF ?_
  | with_reducible refine bothNT ?_
  | with_reducible refine bothNF ?_
  | (with_reducible refine both (fun hc => ?_) (fun hc => ?_) <;> (try simp only [Bool.not_eq_true', Bool.not_eq_false', decide_eq_true_eq, decide_eq_false_iff_not] at hc) <;> (try (exfalso; omega)) <;> (try exact absurd rfl hc) <;> (try exact absurd trivial hc)))

local macro_rules | `(tactic| walk_at "sm") => `(tactic| first
  | with_reducible refine di_lst ?_
  | with_reducible refine as_lst ?_
  | ((with_reducible refine' d2_addSm ?hs1 ?hs2 ?hs3 (fun hs => ?_)); (case hs1 => assumption); (case hs2 => assumption); (case hs3 => omega))
  | ((with_reducible refine' d2_addL ?hal ?_); (case hal => (simp; try omega)))
  | with_reducible refine d1_neg ?_)

abbrev s__law_is : Stmt := (topS 48)
theorem sc__law_is : FnScope ["e", "spot", "sorts", "k"] ["e", "spot"] (defScope s__law_is) := ⟨rfl, rfl, rfl, by decide +kernel, rfl, by decide +kernel, by decide +kernel⟩
abbrev s__law_kept : Stmt := (topS 49)
theorem sc__law_kept : FnScope ["e"] ["e"] (defScope s__law_kept) := ⟨rfl, rfl, rfl, by decide +kernel, rfl, by decide +kernel, by decide +kernel⟩
abbrev s__law_two_kept : Stmt := (topS 50)
theorem sc__law_two_kept : FnScope ["e"] ["e"] (defScope s__law_two_kept) := ⟨rfl, rfl, rfl, by decide +kernel, rfl, by decide +kernel, by decide +kernel⟩
section
variable {P : Program} {w : World} {K : PySem.W.Frag} {mg : Str → Option Value} {base : Heap}
theorem dr_isiTC2 {ms : Ms} {Q : Dat → Ms → Prop} {D A B : Addr} {fs : List (Str × Dat)} {x y : Bool} (hT : ExT K D) (ha : PySem.W.kitOne K (.ref D) (.ref A) = some x) (hb : PySem.W.kitOne K (.ref D) (.ref B) = some y) (q : Q (.bl (x || y)) ms) : DR K (rIsiXT K) [.exc D fs, .tup [.ref A, .ref B]] ms Q := dr_isiTCx (Cs := [A, B]) hT (kit2 ha hb) q
theorem dr_isiTS2 {ms : Ms} {Q : Dat → Ms → Prop} {D A B a dd : Addr} {fs : List (Str × Dat)} {x y : Bool} (hT : ExT K D) (ha : PySem.W.kitOne K (.ref D) (.ref A) = some x) (hb : PySem.W.kitOne K (.ref D) (.ref B) = some y) (q : Q (.bl (x || y)) ms) : DR K (rIsiW a D dd K) [.hot a dd D fs, .tup [.ref A, .ref B]] ms Q := dr_isiTSh (Cs := [A, B]) hT (kit2 ha hb) q
theorem ok_is {f : Addr} {fd : FuncData} {g L : Addr} {fdg : FuncData} {Cs : List Addr} (M_LostError : mg "LostError" = some (.ref L)) (hC : Cls K L Cs) (hn : Cs.length = 38) (D__law_sorts : Df K mg "_law_sorts" g) (G__law_sorts : FnG P w K mg base (L2N.CX P w) 1 g fdg ["e"] (spD K (pm_sorts K Cs))) (b__law_sorts : Binds K fdg ["e"] []) (F : Fun K "_law_is" "_law_is" s__law_is f fd) (T : Txt K mg) :
    FnG P w K mg base (L2N.CX P w) 2 f fd ["e", "spot"] (spD K (pm_is K Cs)) := by
  refine fn_dl F sc__law_is (fun ds ms Pd X h => by obtain ⟨_, _, _, _, rfl, _⟩ := h; rfl) (fun cdv Ar outer s H E hr hq => ?_)
  have tk := (L2N.takes_of (X := cxOf (L2N.CX P w) P w K mg base ["e", "spot", "sorts", "k"] "_law_is" (defScope s__law_is) f cdv Ar outer s H E) (E := E) rfl rfl rfl rfl)
  refine ⟨_, (pss_cons (ps_set (i := 2) sc__law_is.nd rfl (by first | exact Or.inl rfl | exact Or.inr rfl) (pe_g G__law_sorts (hr.mono (by decide)) hq rfl D__law_sorts.m D__law_sorts.k b__law_sorts .nil (fun σ => L2N.passAt tk σ) (pa_cons (pv 0) pa_nil))) (pss_cons (ps_if (PW.pt (pw_or (pt_not (pt_val (pe_callB (crK (K := K) (r := rIsiX) rfl call_isiX) (by rfl) T.b_isinstance bt_isinstance (pa_cons (pv 0) (pa_cons (pe_glob (v := .ref _) rfl M_LostError rfl) pa_nil))))) (pw_or1 (pt_not (pt_val (pe_callB (crK (K := K) (r := rIsiX) rfl call_isiX) (by rfl) T.b_isinstance bt_isinstance (pa_cons (pv 0) (pa_cons (pe_bltn (v := .ty "ValueError") rfl T.b_ValueError bt_ValueError rfl) pa_nil)))))))) (pss_one (ps_ret pe_bl)) pss_nil) (pss_one (ps_ret (pe_cmpR (opK (K := K) (r := rEqA) rfl (op_eqA hr.units)) (pe_lc (own := [("k", 3)]) rfl sc__law_is.nd (pi_range1 rfl T.b_range (pa_cons (pe_callB (crK (K := K) (r := rLenK) rfl call_len) (by rfl) T.b_len bt_len (pa_cons (pv 2) pa_nil)) pa_nil)) (blkOk_by (own := [("k", 3)]) (N := ["e", "spot", "sorts", "k"]) (sc := defScope s__law_is) (by decide +kernel)) (fun _ _ _ _ _ => (pg_name (i := 3) sc__law_is.nd rfl (by first | exact Or.inl rfl | exact Or.inr rfl))) (fun _ _ _ _ _ => pts_one (pt_val (pe_ix (ixK (K := K) (r := rIx) rfl ix_seq) (pv 2) (pv 3) (fun _ _ => rfl)))) (fun _ _ _ _ _ => (pv 3))) (pe_lst (pa_cons (pv 1) pa_nil)) (nomark _)))))), ?_⟩
  try simp only [cxK]
  rintro _ ms Pd Xd ⟨D, fs, j, spot, rfl, hj, q⟩ bl mb
  have hD := List.mem_of_getElem? hj
  have hT := hC.t _ hD
  have jl : j < 38 := by rw [← hn]; exact (List.getElem?_eq_some_iff.mp hj).1
  repeat' walk_at "d1"
  refine ⟨_, fs, rfl, hD, ?_⟩
  repeat' first
    | walk_at "d1"
    | with_reducible refine dr_isiE hT (hC.l _ hD) ?_
    | with_reducible refine dr_isiEt hT (hC.v _ hD) ?_
  refine di_rng1 ?_
  repeat' walk_at "d1"
  rw [List.length_map, hn]
  refine ⟨by decide, ?_⟩
  refine lcw_map (by decide) (fun i => decide (i = j)) (fun i => .int (0 + i)) (fun i hi => dg_name (by decide) ?_) ?_
  · have hi' : i < Cs.length := by rw [hn]; exact hi
    have ea : atI (Cs.map fun C => Dat.bl (decide (D = C))) (i : Int) = some (.bl (decide (i = j))) := by
      rw [atI_nat (by rw [List.length_map]; exact hi'), List.getElem_map]
      refine congrArg some (congrArg Dat.bl (decide_eq_decide.mpr ?_))
      rw [get_nd hC.nd hj (List.getElem?_eq_getElem hi')]
      exact eq_comm
    repeat' walk_at "d1"
    rw [Int.zero_add]
    refine d2_ix (.inl rfl) ea ?_
    repeat' walk_at "d1"
    exact ⟨rfl, rfl, fun _ => de_var rfl ⟨by first | rfl | rw [Int.zero_add], rfl⟩⟩
  · repeat' walk_at "d1"
    refine d2_eqI1 (a := j) ?_ (.inl q)
    rw [filt_one, if_pos (by simpa using jl), Int.zero_add]
theorem okE_is {f : Addr} {fd : FuncData} {g L : Addr} {fdg : FuncData} {Cs : List Addr} (M_LostError : mg "LostError" = some (.ref L)) (hC : Cls K L Cs) (hn : Cs.length = 38) (D__law_sorts : Df K mg "_law_sorts" g) (HE__law_sorts : FnGE P w K mg base (L2N.CX P w) 1 g fdg ["e"] (fun a D dd => spD K (pmE_sorts K Cs a D dd))) (b__law_sorts : Binds K fdg ["e"] []) (F : Fun K "_law_is" "_law_is" s__law_is f fd) (T : Txt K mg) :
    FnGE P w K mg base (L2N.CX P w) 2 f fd ["e", "spot"] (fun a D dd => spD K (pmE_is K Cs a D dd)) := by
  refine fn_dlE F sc__law_is (fun a D dd ds ms Pd X h => by obtain ⟨_, _, _, rfl, _⟩ := h; rfl) (fun cdv Ar outer s H E p D dd hot hz hrh hq => ?_)
  have hc : L2H.HotC (L2H.cxH (L2N.CX P w) P w K mg base ["e", "spot", "sorts", "k"] "_law_is" (defScope s__law_is) f cdv Ar outer s H E p) := ⟨p, hot, List.mem_singleton.mpr rfl⟩
  have hun : (Ar.deeper (envOfC "_law_is" (defScope s__law_is) s.heap.objs.size f cdv)).units + 64 < cLine := by have := hrh.un; omega
  have hf := hotF hot
  refine ⟨_, (pss_cons (ps_set (i := 2) sc__law_is.nd rfl (by first | exact Or.inl rfl | exact Or.inr rfl) (pe_gE HE__law_sorts (hrh.mono (by decide)) hq hot (List.mem_singleton.mpr rfl) hz rfl D__law_sorts.m D__law_sorts.k b__law_sorts (fun σ => passN σ) (pa_cons (pv 0) pa_nil))) (pss_cons (ps_if (PW.pt (pw_or (pt_not (pt_val (pe_callB (crK (K := K) (r := rIsiW p.1 D dd) rfl (call_isiW (List.mem_singleton.mpr rfl) hz hf)) (by rfl) T.b_isinstance bt_isinstance (pa_cons (pv 0) (pa_cons (pe_glob (v := .ref _) rfl M_LostError rfl) pa_nil))))) (pw_or1 (pt_not (pt_val (pe_callB (crK (K := K) (r := rIsiW p.1 D dd) rfl (call_isiW (List.mem_singleton.mpr rfl) hz hf)) (by rfl) T.b_isinstance bt_isinstance (pa_cons (pv 0) (pa_cons (pe_bltn (v := .ty "ValueError") rfl T.b_ValueError bt_ValueError rfl) pa_nil)))))))) (pss_one (ps_ret pe_bl)) pss_nil) (pss_one (ps_ret (pe_cmpR (opK (K := K) (r := rEqA) rfl (op_eqA hun)) (pe_lcH (own := [("k", 3)]) hc sc__law_is.nd (L2H.pi_range1H rfl T.b_range (pa_cons (pe_callB (crK (K := K) (r := rLenK) rfl call_len) (by rfl) T.b_len bt_len (pa_cons (pv 2) pa_nil)) pa_nil)) (blkOk_by (own := [("k", 3)]) (N := ["e", "spot", "sorts", "k"]) (sc := defScope s__law_is) (by decide +kernel)) (fun _ _ _ _ _ => (pg_name (i := 3) sc__law_is.nd rfl (by first | exact Or.inl rfl | exact Or.inr rfl))) (fun _ _ _ _ _ => pts_one (pt_val (pe_ix (ixK (K := K) (r := rIx) rfl ix_seq) (pv 2) (pv 3) (fun _ _ => rfl)))) (fun _ _ _ _ _ => (pv 3))) (pe_lst (pa_cons (pv 1) pa_nil)) (nomark _)))))), ?_⟩
  try simp only [cxK, cxHK]
  rintro _ ms Pd Xd ⟨fs, j, spot, rfl, hj, q⟩ bl mb
  have hD := List.mem_of_getElem? hj
  have hT := hC.t _ hD
  have jl : j < 38 := by rw [← hn]; exact (List.getElem?_eq_some_iff.mp hj).1
  repeat' walk_at "d1"
  refine ⟨fs, rfl, hD, ?_⟩
  repeat' first
    | walk_at "d1"
    | with_reducible refine dr_isiWh hT (hC.l _ hD) ?_
    | with_reducible refine dr_isiWt hT (hC.v _ hD) ?_
  refine di_rng1 ?_
  repeat' walk_at "d1"
  rw [List.length_map, hn]
  refine ⟨by decide, ?_⟩
  refine lcw_map (by decide) (fun i => decide (i = j)) (fun i => .int (0 + i)) (fun i hi => dg_name (by decide) ?_) ?_
  · have hi' : i < Cs.length := by rw [hn]; exact hi
    have ea : atI (Cs.map fun C => Dat.bl (decide (D = C))) (i : Int) = some (.bl (decide (i = j))) := by
      rw [atI_nat (by rw [List.length_map]; exact hi'), List.getElem_map]
      refine congrArg some (congrArg Dat.bl (decide_eq_decide.mpr ?_))
      rw [get_nd hC.nd hj (List.getElem?_eq_getElem hi')]
      exact eq_comm
    repeat' walk_at "d1"
    rw [Int.zero_add]
    refine d2_ix (.inl rfl) ea ?_
    repeat' walk_at "d1"
    exact ⟨rfl, rfl, fun _ => de_var rfl ⟨by first | rfl | rw [Int.zero_add], rfl⟩⟩
  · repeat' walk_at "d1"
    refine d2_eqI1 (a := j) ?_ (.inl q)
    rw [filt_one, if_pos (by simpa using jl), Int.zero_add]
theorem ok_kept {f : Addr} {fd : FuncData} {C0 C1 C2 C3 C4 C5 C6 C7 C8 C9 C10 C11 C12 C13 C14 C15 C16 C17 C18 C19 C20 C21 C22 C23 C24 C25 C26 C27 C28 C29 C30 C31 C32 C33 C34 C35 C36 C37 L : Addr} (M_InvalidLine : mg "InvalidLine" = some (.ref C0)) (M_InvalidText : mg "InvalidText" = some (.ref C1)) (M_InvalidHouses : mg "InvalidHouses" = some (.ref C2)) (M_InvalidRoads : mg "InvalidRoads" = some (.ref C3)) (M_InvalidHouse : mg "InvalidHouse" = some (.ref C4)) (M_InvalidNames : mg "InvalidNames" = some (.ref C5)) (M_InvalidScript : mg "InvalidScript" = some (.ref C6)) (M_InvalidFounds : mg "InvalidFounds" = some (.ref C7)) (M_InvalidCount : mg "InvalidCount" = some (.ref C8)) (M_InvalidCounts : mg "InvalidCounts" = some (.ref C9)) (M_InvalidLater : mg "InvalidLater" = some (.ref C10)) (M_InvalidIndex : mg "InvalidIndex" = some (.ref C11)) (M_InvalidReaders : mg "InvalidReaders" = some (.ref C12)) (M_InvalidMap : mg "InvalidMap" = some (.ref C13)) (M_InvalidLot : mg "InvalidLot" = some (.ref C14)) (M_InvalidSeats : mg "InvalidSeats" = some (.ref C15)) (M_InvalidName : mg "InvalidName" = some (.ref C16)) (M_InvalidOwns : mg "InvalidOwns" = some (.ref C17)) (M_InvalidLines : mg "InvalidLines" = some (.ref C18)) (M_InvalidWriters : mg "InvalidWriters" = some (.ref C19)) (M_InvalidRows : mg "InvalidRows" = some (.ref C20)) (M_NotJoined : mg "NotJoined" = some (.ref C21)) (M_Stopped : mg "Stopped" = some (.ref C22)) (M_Refused : mg "Refused" = some (.ref C23)) (M_Ringed : mg "Ringed" = some (.ref C24)) (M_NoRow : mg "NoRow" = some (.ref C25)) (M_NotTwo : mg "NotTwo" = some (.ref C26)) (M_Nobodys : mg "Nobodys" = some (.ref C27)) (M_Crossed : mg "Crossed" = some (.ref C28)) (M_NotWhole : mg "NotWhole" = some (.ref C29)) (M_Fitless : mg "Fitless" = some (.ref C30)) (M_Clash : mg "Clash" = some (.ref C31)) (M_TooMany : mg "TooMany" = some (.ref C32)) (M_NoLetter : mg "NoLetter" = some (.ref C33)) (M_NotARoad : mg "NotARoad" = some (.ref C34)) (M_Twice : mg "Twice" = some (.ref C35)) (M_NothingUnderWay : mg "NothingUnderWay" = some (.ref C36)) (M_NotRight : mg "NotRight" = some (.ref C37)) (M_LostError : mg "LostError" = some (.ref L)) (hC : Cls K L [C0, C1, C2, C3, C4, C5, C6, C7, C8, C9, C10, C11, C12, C13, C14, C15, C16, C17, C18, C19, C20, C21, C22, C23, C24, C25, C26, C27, C28, C29, C30, C31, C32, C33, C34, C35, C36, C37]) (F : Fun K "_law_kept" "_law_kept" s__law_kept f fd) (T : Txt K mg) :
    FnG P w K mg base (L2N.CX P w) 1 f fd ["e"] (spD K (pm_kept K [C0, C1, C2, C3, C4, C5, C6, C7, C8, C9, C10, C11, C12, C13, C14, C15, C16, C17, C18, C19, C20, C21, C22, C23, C24, C25, C26, C27, C28, C29, C30, C31, C32, C33, C34, C35, C36, C37])) := by
  refine fn_dl F sc__law_kept (fun ds ms Pd X h => by obtain ⟨_, _, _, _, rfl, _⟩ := h; rfl) (fun cdv Ar outer s H E hr hq => ?_)
  have tk := (L2N.takes_of (X := cxOf (L2N.CX P w) P w K mg base ["e"] "_law_kept" (defScope s__law_kept) f cdv Ar outer s H E) (E := E) rfl rfl rfl rfl)
  refine ⟨_, (pss_cons (ps_if (pt_val (pe_callB (crK (K := K) (r := rIsiXT) rfl call_isiXT) (by rfl) T.b_isinstance bt_isinstance (pa_cons (pv 0) (pa_cons (pe_tup (pa_cons (pe_glob (v := .ref _) rfl M_NotJoined rfl) (pa_cons (pe_glob (v := .ref _) rfl M_Stopped rfl) pa_nil))) pa_nil)))) (pss_one (ps_ret (pe_fldE (pv 0)))) pss_nil) (pss_cons (ps_if (pt_val (pe_callB (crK (K := K) (r := rIsiX) rfl call_isiX) (by rfl) T.b_isinstance bt_isinstance (pa_cons (pv 0) (pa_cons (pe_glob (v := .ref _) rfl M_Refused rfl) pa_nil)))) (pss_one (ps_ret (pe_fldE (pv 0)))) pss_nil) (pss_cons (ps_if (pt_val (pe_callB (crK (K := K) (r := rIsiXT) rfl call_isiXT) (by rfl) T.b_isinstance bt_isinstance (pa_cons (pv 0) (pa_cons (pe_tup (pa_cons (pe_glob (v := .ref _) rfl M_Ringed rfl) (pa_cons (pe_glob (v := .ref _) rfl M_NoRow rfl) pa_nil))) pa_nil)))) (pss_one (ps_ret (pe_fldE (pv 0)))) pss_nil) (pss_cons (ps_if (pt_val (pe_callB (crK (K := K) (r := rIsiX) rfl call_isiX) (by rfl) T.b_isinstance bt_isinstance (pa_cons (pv 0) (pa_cons (pe_glob (v := .ref _) rfl M_NotTwo rfl) pa_nil)))) (pss_one (ps_ret (pe_fldE (pv 0)))) pss_nil) (pss_cons (ps_if (pt_val (pe_callB (crK (K := K) (r := rIsiXT) rfl call_isiXT) (by rfl) T.b_isinstance bt_isinstance (pa_cons (pv 0) (pa_cons (pe_tup (pa_cons (pe_glob (v := .ref _) rfl M_Nobodys rfl) (pa_cons (pe_glob (v := .ref _) rfl M_Fitless rfl) pa_nil))) pa_nil)))) (pss_one (ps_ret (pe_fldE (pv 0)))) pss_nil) (pss_cons (ps_if (pt_val (pe_callB (crK (K := K) (r := rIsiX) rfl call_isiX) (by rfl) T.b_isinstance bt_isinstance (pa_cons (pv 0) (pa_cons (pe_glob (v := .ref _) rfl M_Crossed rfl) pa_nil)))) (pss_one (ps_ret (pe_fldE (pv 0)))) pss_nil) (pss_cons (ps_if (pt_val (pe_callB (crK (K := K) (r := rIsiXT) rfl call_isiXT) (by rfl) T.b_isinstance bt_isinstance (pa_cons (pv 0) (pa_cons (pe_tup (pa_cons (pe_glob (v := .ref _) rfl M_NotWhole rfl) (pa_cons (pe_glob (v := .ref _) rfl M_Clash rfl) pa_nil))) pa_nil)))) (pss_one (ps_ret (pe_fldE (pv 0)))) pss_nil) (pss_cons (ps_if (pt_val (pe_callB (crK (K := K) (r := rIsiX) rfl call_isiX) (by rfl) T.b_isinstance bt_isinstance (pa_cons (pv 0) (pa_cons (pe_glob (v := .ref _) rfl M_TooMany rfl) pa_nil)))) (pss_one (ps_ret (pe_fldE (pv 0)))) pss_nil) (pss_cons (ps_if (pt_val (pe_callB (crK (K := K) (r := rIsiX) rfl call_isiX) (by rfl) T.b_isinstance bt_isinstance (pa_cons (pv 0) (pa_cons (pe_glob (v := .ref _) rfl M_NoLetter rfl) pa_nil)))) (pss_one (ps_ret (pe_fldE (pv 0)))) pss_nil) (pss_one (ps_ret (pe_fldE (pv 0))))))))))))), ?_⟩
  try simp only [cxK]
  rintro _ ms Pd Xd ⟨D, f, d, j, rfl, hj, hfl, hno, q⟩ bl mb
  have hT := hC.t _ (List.mem_of_getElem? hj)
  have kj := fun (i : Nat) (C : Addr) (h : ([C0, C1, C2, C3, C4, C5, C6, C7, C8, C9, C10, C11, C12, C13, C14, C15, C16, C17, C18, C19, C20, C21, C22, C23, C24, C25, C26, C27, C28, C29, C30, C31, C32, C33, C34, C35, C36, C37] : List Addr)[i]? = some C) => hC.at hj h
  have jl : j < 34 := (List.getElem?_eq_some_iff.mp hfl).1
  have k21 := kj 21 C21 rfl
  have k22 := kj 22 C22 rfl
  have k23 := kj 23 C23 rfl
  have k24 := kj 24 C24 rfl
  have k25 := kj 25 C25 rfl
  have k26 := kj 26 C26 rfl
  have k27 := kj 27 C27 rfl
  have k30 := kj 30 C30 rfl
  have k28 := kj 28 C28 rfl
  have k29 := kj 29 C29 rfl
  have k31 := kj 31 C31 rfl
  have k32 := kj 32 C32 rfl
  have k33 := kj 33 C33 rfl
  repeat' first
    | walk_at "d1"
    | with_reducible refine dr_isiTC2 hT k21 k22 ?_
    | with_reducible refine dr_isiE hT k23 ?_
    | with_reducible refine dr_isiTC2 hT k24 k25 ?_
    | with_reducible refine dr_isiE hT k26 ?_
    | with_reducible refine dr_isiTC2 hT k27 k30 ?_
    | with_reducible refine dr_isiE hT k28 ?_
    | with_reducible refine dr_isiTC2 hT k29 k31 ?_
    | with_reducible refine dr_isiE hT k32 ?_
    | with_reducible refine dr_isiE hT k33 ?_
  · rename_i h
    have h : j = 21 ∨ j = 22 := by simpa using h
    have e : f = "house" := by rcases h with h | h <;> (subst h; exact (Option.some.inj hfl).symm)
    subst e
    exact de_fldE (fs := [("house", d)]) hT hno rfl (de_var rfl ⟨rfl, .inl q⟩)
  · rename_i h
    have h : j = 23 := by simpa using h
    have e : f = "at" := by rcases h with h <;> (subst h; exact (Option.some.inj hfl).symm)
    subst e
    exact de_fldE (fs := [("at", d)]) hT hno rfl (de_var rfl ⟨rfl, .inl q⟩)
  · rename_i h
    have h : j = 24 ∨ j = 25 := by simpa using h
    have e : f = "names" := by rcases h with h | h <;> (subst h; exact (Option.some.inj hfl).symm)
    subst e
    exact de_fldE (fs := [("names", d)]) hT hno rfl (de_var rfl ⟨rfl, .inl q⟩)
  · rename_i h
    have h : j = 26 := by simpa using h
    have e : f = "many" := by rcases h with h <;> (subst h; exact (Option.some.inj hfl).symm)
    subst e
    exact de_fldE (fs := [("many", d)]) hT hno rfl (de_var rfl ⟨rfl, .inl q⟩)
  · rename_i h
    have h : j = 27 ∨ j = 30 := by simpa using h
    have e : f = "picture" := by rcases h with h | h <;> (subst h; exact (Option.some.inj hfl).symm)
    subst e
    exact de_fldE (fs := [("picture", d)]) hT hno rfl (de_var rfl ⟨rfl, .inl q⟩)
  · rename_i h
    have h : j = 28 := by simpa using h
    have e : f = "cross" := by rcases h with h <;> (subst h; exact (Option.some.inj hfl).symm)
    subst e
    exact de_fldE (fs := [("cross", d)]) hT hno rfl (de_var rfl ⟨rfl, .inl q⟩)
  · rename_i h
    have h : j = 29 ∨ j = 31 := by simpa using h
    have e : f = "reader" := by rcases h with h | h <;> (subst h; exact (Option.some.inj hfl).symm)
    subst e
    exact de_fldE (fs := [("reader", d)]) hT hno rfl (de_var rfl ⟨rfl, .inl q⟩)
  · rename_i h
    have h : j = 32 := by simpa using h
    have e : f = "count" := by rcases h with h <;> (subst h; exact (Option.some.inj hfl).symm)
    subst e
    exact de_fldE (fs := [("count", d)]) hT hno rfl (de_var rfl ⟨rfl, .inl q⟩)
  · rename_i h
    have h : j = 33 := by simpa using h
    have e : f = "k" := by rcases h with h <;> (subst h; exact (Option.some.inj hfl).symm)
    subst e
    exact de_fldE (fs := [("k", d)]) hT hno rfl (de_var rfl ⟨rfl, .inl q⟩)
  · rename_i h0 h1 h2 h3 h4 h5 h6 h7 h8
    have hj2 : j < 21 := by
      simp only [Bool.or_eq_false_iff, decide_eq_false_iff_not] at h0 h2 h4 h6
      omega
    have all : ∀ i < 21, fields1[i]? = some (Str.ofString "given") := by decide +kernel
    have e : f = "given" := Option.some.inj (hfl.symm.trans (all j hj2))
    subst e
    exact de_fldE (fs := [("given", d)]) hT hno rfl (de_var rfl ⟨rfl, .inl q⟩)
theorem okE_kept {f : Addr} {fd : FuncData} {C0 C1 C2 C3 C4 C5 C6 C7 C8 C9 C10 C11 C12 C13 C14 C15 C16 C17 C18 C19 C20 C21 C22 C23 C24 C25 C26 C27 C28 C29 C30 C31 C32 C33 C34 C35 C36 C37 L : Addr} (M_InvalidLine : mg "InvalidLine" = some (.ref C0)) (M_InvalidText : mg "InvalidText" = some (.ref C1)) (M_InvalidHouses : mg "InvalidHouses" = some (.ref C2)) (M_InvalidRoads : mg "InvalidRoads" = some (.ref C3)) (M_InvalidHouse : mg "InvalidHouse" = some (.ref C4)) (M_InvalidNames : mg "InvalidNames" = some (.ref C5)) (M_InvalidScript : mg "InvalidScript" = some (.ref C6)) (M_InvalidFounds : mg "InvalidFounds" = some (.ref C7)) (M_InvalidCount : mg "InvalidCount" = some (.ref C8)) (M_InvalidCounts : mg "InvalidCounts" = some (.ref C9)) (M_InvalidLater : mg "InvalidLater" = some (.ref C10)) (M_InvalidIndex : mg "InvalidIndex" = some (.ref C11)) (M_InvalidReaders : mg "InvalidReaders" = some (.ref C12)) (M_InvalidMap : mg "InvalidMap" = some (.ref C13)) (M_InvalidLot : mg "InvalidLot" = some (.ref C14)) (M_InvalidSeats : mg "InvalidSeats" = some (.ref C15)) (M_InvalidName : mg "InvalidName" = some (.ref C16)) (M_InvalidOwns : mg "InvalidOwns" = some (.ref C17)) (M_InvalidLines : mg "InvalidLines" = some (.ref C18)) (M_InvalidWriters : mg "InvalidWriters" = some (.ref C19)) (M_InvalidRows : mg "InvalidRows" = some (.ref C20)) (M_NotJoined : mg "NotJoined" = some (.ref C21)) (M_Stopped : mg "Stopped" = some (.ref C22)) (M_Refused : mg "Refused" = some (.ref C23)) (M_Ringed : mg "Ringed" = some (.ref C24)) (M_NoRow : mg "NoRow" = some (.ref C25)) (M_NotTwo : mg "NotTwo" = some (.ref C26)) (M_Nobodys : mg "Nobodys" = some (.ref C27)) (M_Crossed : mg "Crossed" = some (.ref C28)) (M_NotWhole : mg "NotWhole" = some (.ref C29)) (M_Fitless : mg "Fitless" = some (.ref C30)) (M_Clash : mg "Clash" = some (.ref C31)) (M_TooMany : mg "TooMany" = some (.ref C32)) (M_NoLetter : mg "NoLetter" = some (.ref C33)) (M_NotARoad : mg "NotARoad" = some (.ref C34)) (M_Twice : mg "Twice" = some (.ref C35)) (M_NothingUnderWay : mg "NothingUnderWay" = some (.ref C36)) (M_NotRight : mg "NotRight" = some (.ref C37)) (M_LostError : mg "LostError" = some (.ref L)) (hC : Cls K L [C0, C1, C2, C3, C4, C5, C6, C7, C8, C9, C10, C11, C12, C13, C14, C15, C16, C17, C18, C19, C20, C21, C22, C23, C24, C25, C26, C27, C28, C29, C30, C31, C32, C33, C34, C35, C36, C37]) (F : Fun K "_law_kept" "_law_kept" s__law_kept f fd) (T : Txt K mg) :
    FnGE P w K mg base (L2N.CX P w) 1 f fd ["e"] (fun a D dd => spD K (pmE_kept K [C0, C1, C2, C3, C4, C5, C6, C7, C8, C9, C10, C11, C12, C13, C14, C15, C16, C17, C18, C19, C20, C21, C22, C23, C24, C25, C26, C27, C28, C29, C30, C31, C32, C33, C34, C35, C36, C37] a D dd)) := by
  refine fn_dlE F sc__law_kept (fun a D dd ds ms Pd X h => by obtain ⟨_, _, _, rfl, _⟩ := h; rfl) (fun cdv Ar outer s H E p D dd hot hz hrh hq => ?_)
  have hc : L2H.HotC (L2H.cxH (L2N.CX P w) P w K mg base ["e"] "_law_kept" (defScope s__law_kept) f cdv Ar outer s H E p) := ⟨p, hot, List.mem_singleton.mpr rfl⟩
  have hun : (Ar.deeper (envOfC "_law_kept" (defScope s__law_kept) s.heap.objs.size f cdv)).units + 64 < cLine := by have := hrh.un; omega
  have hf := hotF hot
  refine ⟨_, (pss_cons (ps_if (pt_val (pe_callB (crK (K := K) (r := rIsiW p.1 D dd) rfl (call_isiW (List.mem_singleton.mpr rfl) hz hf)) (by rfl) T.b_isinstance bt_isinstance (pa_cons (pv 0) (pa_cons (pe_tup (pa_cons (pe_glob (v := .ref _) rfl M_NotJoined rfl) (pa_cons (pe_glob (v := .ref _) rfl M_Stopped rfl) pa_nil))) pa_nil)))) (pss_one (ps_ret (pe_fldZ rfl (List.mem_singleton.mpr rfl) hz hf (pv 0)))) pss_nil) (pss_cons (ps_if (pt_val (pe_callB (crK (K := K) (r := rIsiW p.1 D dd) rfl (call_isiW (List.mem_singleton.mpr rfl) hz hf)) (by rfl) T.b_isinstance bt_isinstance (pa_cons (pv 0) (pa_cons (pe_glob (v := .ref _) rfl M_Refused rfl) pa_nil)))) (pss_one (ps_ret (pe_fldZ rfl (List.mem_singleton.mpr rfl) hz hf (pv 0)))) pss_nil) (pss_cons (ps_if (pt_val (pe_callB (crK (K := K) (r := rIsiW p.1 D dd) rfl (call_isiW (List.mem_singleton.mpr rfl) hz hf)) (by rfl) T.b_isinstance bt_isinstance (pa_cons (pv 0) (pa_cons (pe_tup (pa_cons (pe_glob (v := .ref _) rfl M_Ringed rfl) (pa_cons (pe_glob (v := .ref _) rfl M_NoRow rfl) pa_nil))) pa_nil)))) (pss_one (ps_ret (pe_fldZ rfl (List.mem_singleton.mpr rfl) hz hf (pv 0)))) pss_nil) (pss_cons (ps_if (pt_val (pe_callB (crK (K := K) (r := rIsiW p.1 D dd) rfl (call_isiW (List.mem_singleton.mpr rfl) hz hf)) (by rfl) T.b_isinstance bt_isinstance (pa_cons (pv 0) (pa_cons (pe_glob (v := .ref _) rfl M_NotTwo rfl) pa_nil)))) (pss_one (ps_ret (pe_fldZ rfl (List.mem_singleton.mpr rfl) hz hf (pv 0)))) pss_nil) (pss_cons (ps_if (pt_val (pe_callB (crK (K := K) (r := rIsiW p.1 D dd) rfl (call_isiW (List.mem_singleton.mpr rfl) hz hf)) (by rfl) T.b_isinstance bt_isinstance (pa_cons (pv 0) (pa_cons (pe_tup (pa_cons (pe_glob (v := .ref _) rfl M_Nobodys rfl) (pa_cons (pe_glob (v := .ref _) rfl M_Fitless rfl) pa_nil))) pa_nil)))) (pss_one (ps_ret (pe_fldZ rfl (List.mem_singleton.mpr rfl) hz hf (pv 0)))) pss_nil) (pss_cons (ps_if (pt_val (pe_callB (crK (K := K) (r := rIsiW p.1 D dd) rfl (call_isiW (List.mem_singleton.mpr rfl) hz hf)) (by rfl) T.b_isinstance bt_isinstance (pa_cons (pv 0) (pa_cons (pe_glob (v := .ref _) rfl M_Crossed rfl) pa_nil)))) (pss_one (ps_ret (pe_fldZ rfl (List.mem_singleton.mpr rfl) hz hf (pv 0)))) pss_nil) (pss_cons (ps_if (pt_val (pe_callB (crK (K := K) (r := rIsiW p.1 D dd) rfl (call_isiW (List.mem_singleton.mpr rfl) hz hf)) (by rfl) T.b_isinstance bt_isinstance (pa_cons (pv 0) (pa_cons (pe_tup (pa_cons (pe_glob (v := .ref _) rfl M_NotWhole rfl) (pa_cons (pe_glob (v := .ref _) rfl M_Clash rfl) pa_nil))) pa_nil)))) (pss_one (ps_ret (pe_fldZ rfl (List.mem_singleton.mpr rfl) hz hf (pv 0)))) pss_nil) (pss_cons (ps_if (pt_val (pe_callB (crK (K := K) (r := rIsiW p.1 D dd) rfl (call_isiW (List.mem_singleton.mpr rfl) hz hf)) (by rfl) T.b_isinstance bt_isinstance (pa_cons (pv 0) (pa_cons (pe_glob (v := .ref _) rfl M_TooMany rfl) pa_nil)))) (pss_one (ps_ret (pe_fldZ rfl (List.mem_singleton.mpr rfl) hz hf (pv 0)))) pss_nil) (pss_cons (ps_if (pt_val (pe_callB (crK (K := K) (r := rIsiW p.1 D dd) rfl (call_isiW (List.mem_singleton.mpr rfl) hz hf)) (by rfl) T.b_isinstance bt_isinstance (pa_cons (pv 0) (pa_cons (pe_glob (v := .ref _) rfl M_NoLetter rfl) pa_nil)))) (pss_one (ps_ret (pe_fldZ rfl (List.mem_singleton.mpr rfl) hz hf (pv 0)))) pss_nil) (pss_one (ps_ret (pe_fldZ rfl (List.mem_singleton.mpr rfl) hz hf (pv 0))))))))))))), ?_⟩
  try simp only [cxK, cxHK]
  rintro _ ms Pd Xd ⟨f, d, j, rfl, hj, hfl, hno, q⟩ bl mb
  have hT := hC.t _ (List.mem_of_getElem? hj)
  have kj := fun (i : Nat) (C : Addr) (h : ([C0, C1, C2, C3, C4, C5, C6, C7, C8, C9, C10, C11, C12, C13, C14, C15, C16, C17, C18, C19, C20, C21, C22, C23, C24, C25, C26, C27, C28, C29, C30, C31, C32, C33, C34, C35, C36, C37] : List Addr)[i]? = some C) => hC.at hj h
  have jl : j < 34 := (List.getElem?_eq_some_iff.mp hfl).1
  have k21 := kj 21 C21 rfl
  have k22 := kj 22 C22 rfl
  have k23 := kj 23 C23 rfl
  have k24 := kj 24 C24 rfl
  have k25 := kj 25 C25 rfl
  have k26 := kj 26 C26 rfl
  have k27 := kj 27 C27 rfl
  have k30 := kj 30 C30 rfl
  have k28 := kj 28 C28 rfl
  have k29 := kj 29 C29 rfl
  have k31 := kj 31 C31 rfl
  have k32 := kj 32 C32 rfl
  have k33 := kj 33 C33 rfl
  repeat' first
    | walk_at "d1"
    | with_reducible refine dr_isiTS2 hT k21 k22 ?_
    | with_reducible refine dr_isiWh hT k23 ?_
    | with_reducible refine dr_isiTS2 hT k24 k25 ?_
    | with_reducible refine dr_isiWh hT k26 ?_
    | with_reducible refine dr_isiTS2 hT k27 k30 ?_
    | with_reducible refine dr_isiWh hT k28 ?_
    | with_reducible refine dr_isiTS2 hT k29 k31 ?_
    | with_reducible refine dr_isiWh hT k32 ?_
    | with_reducible refine dr_isiWh hT k33 ?_
  · rename_i h
    have h : j = 21 ∨ j = 22 := by simpa using h
    have e : f = "house" := by rcases h with h | h <;> (subst h; exact (Option.some.inj hfl).symm)
    subst e
    exact de_fldZh (fs := [("house", d)]) hT hno rfl (de_var rfl ⟨rfl, .inl q⟩)
  · rename_i h
    have h : j = 23 := by simpa using h
    have e : f = "at" := by rcases h with h <;> (subst h; exact (Option.some.inj hfl).symm)
    subst e
    exact de_fldZh (fs := [("at", d)]) hT hno rfl (de_var rfl ⟨rfl, .inl q⟩)
  · rename_i h
    have h : j = 24 ∨ j = 25 := by simpa using h
    have e : f = "names" := by rcases h with h | h <;> (subst h; exact (Option.some.inj hfl).symm)
    subst e
    exact de_fldZh (fs := [("names", d)]) hT hno rfl (de_var rfl ⟨rfl, .inl q⟩)
  · rename_i h
    have h : j = 26 := by simpa using h
    have e : f = "many" := by rcases h with h <;> (subst h; exact (Option.some.inj hfl).symm)
    subst e
    exact de_fldZh (fs := [("many", d)]) hT hno rfl (de_var rfl ⟨rfl, .inl q⟩)
  · rename_i h
    have h : j = 27 ∨ j = 30 := by simpa using h
    have e : f = "picture" := by rcases h with h | h <;> (subst h; exact (Option.some.inj hfl).symm)
    subst e
    exact de_fldZh (fs := [("picture", d)]) hT hno rfl (de_var rfl ⟨rfl, .inl q⟩)
  · rename_i h
    have h : j = 28 := by simpa using h
    have e : f = "cross" := by rcases h with h <;> (subst h; exact (Option.some.inj hfl).symm)
    subst e
    exact de_fldZh (fs := [("cross", d)]) hT hno rfl (de_var rfl ⟨rfl, .inl q⟩)
  · rename_i h
    have h : j = 29 ∨ j = 31 := by simpa using h
    have e : f = "reader" := by rcases h with h | h <;> (subst h; exact (Option.some.inj hfl).symm)
    subst e
    exact de_fldZh (fs := [("reader", d)]) hT hno rfl (de_var rfl ⟨rfl, .inl q⟩)
  · rename_i h
    have h : j = 32 := by simpa using h
    have e : f = "count" := by rcases h with h <;> (subst h; exact (Option.some.inj hfl).symm)
    subst e
    exact de_fldZh (fs := [("count", d)]) hT hno rfl (de_var rfl ⟨rfl, .inl q⟩)
  · rename_i h
    have h : j = 33 := by simpa using h
    have e : f = "k" := by rcases h with h <;> (subst h; exact (Option.some.inj hfl).symm)
    subst e
    exact de_fldZh (fs := [("k", d)]) hT hno rfl (de_var rfl ⟨rfl, .inl q⟩)
  · rename_i h0 h1 h2 h3 h4 h5 h6 h7 h8
    have hj2 : j < 21 := by
      simp only [Bool.or_eq_false_iff, decide_eq_false_iff_not] at h0 h2 h4 h6
      omega
    have all : ∀ i < 21, fields1[i]? = some (Str.ofString "given") := by decide +kernel
    have e : f = "given" := Option.some.inj (hfl.symm.trans (all j hj2))
    subst e
    exact de_fldZh (fs := [("given", d)]) hT hno rfl (de_var rfl ⟨rfl, .inl q⟩)
theorem ok_two_kept {f : Addr} {fd : FuncData} {C0 C1 C2 C3 C4 C5 C6 C7 C8 C9 C10 C11 C12 C13 C14 C15 C16 C17 C18 C19 C20 C21 C22 C23 C24 C25 C26 C27 C28 C29 C30 C31 C32 C33 C34 C35 C36 C37 L : Addr} (M_InvalidLine : mg "InvalidLine" = some (.ref C0)) (M_InvalidText : mg "InvalidText" = some (.ref C1)) (M_InvalidHouses : mg "InvalidHouses" = some (.ref C2)) (M_InvalidRoads : mg "InvalidRoads" = some (.ref C3)) (M_InvalidHouse : mg "InvalidHouse" = some (.ref C4)) (M_InvalidNames : mg "InvalidNames" = some (.ref C5)) (M_InvalidScript : mg "InvalidScript" = some (.ref C6)) (M_InvalidFounds : mg "InvalidFounds" = some (.ref C7)) (M_InvalidCount : mg "InvalidCount" = some (.ref C8)) (M_InvalidCounts : mg "InvalidCounts" = some (.ref C9)) (M_InvalidLater : mg "InvalidLater" = some (.ref C10)) (M_InvalidIndex : mg "InvalidIndex" = some (.ref C11)) (M_InvalidReaders : mg "InvalidReaders" = some (.ref C12)) (M_InvalidMap : mg "InvalidMap" = some (.ref C13)) (M_InvalidLot : mg "InvalidLot" = some (.ref C14)) (M_InvalidSeats : mg "InvalidSeats" = some (.ref C15)) (M_InvalidName : mg "InvalidName" = some (.ref C16)) (M_InvalidOwns : mg "InvalidOwns" = some (.ref C17)) (M_InvalidLines : mg "InvalidLines" = some (.ref C18)) (M_InvalidWriters : mg "InvalidWriters" = some (.ref C19)) (M_InvalidRows : mg "InvalidRows" = some (.ref C20)) (M_NotJoined : mg "NotJoined" = some (.ref C21)) (M_Stopped : mg "Stopped" = some (.ref C22)) (M_Refused : mg "Refused" = some (.ref C23)) (M_Ringed : mg "Ringed" = some (.ref C24)) (M_NoRow : mg "NoRow" = some (.ref C25)) (M_NotTwo : mg "NotTwo" = some (.ref C26)) (M_Nobodys : mg "Nobodys" = some (.ref C27)) (M_Crossed : mg "Crossed" = some (.ref C28)) (M_NotWhole : mg "NotWhole" = some (.ref C29)) (M_Fitless : mg "Fitless" = some (.ref C30)) (M_Clash : mg "Clash" = some (.ref C31)) (M_TooMany : mg "TooMany" = some (.ref C32)) (M_NoLetter : mg "NoLetter" = some (.ref C33)) (M_NotARoad : mg "NotARoad" = some (.ref C34)) (M_Twice : mg "Twice" = some (.ref C35)) (M_NothingUnderWay : mg "NothingUnderWay" = some (.ref C36)) (M_NotRight : mg "NotRight" = some (.ref C37)) (M_LostError : mg "LostError" = some (.ref L)) (hC : Cls K L [C0, C1, C2, C3, C4, C5, C6, C7, C8, C9, C10, C11, C12, C13, C14, C15, C16, C17, C18, C19, C20, C21, C22, C23, C24, C25, C26, C27, C28, C29, C30, C31, C32, C33, C34, C35, C36, C37]) (F : Fun K "_law_two_kept" "_law_two_kept" s__law_two_kept f fd) (T : Txt K mg) :
    FnG P w K mg base (L2N.CX P w) 1 f fd ["e"] (spD K (pm_two K [C0, C1, C2, C3, C4, C5, C6, C7, C8, C9, C10, C11, C12, C13, C14, C15, C16, C17, C18, C19, C20, C21, C22, C23, C24, C25, C26, C27, C28, C29, C30, C31, C32, C33, C34, C35, C36, C37])) := by
  refine fn_dl F sc__law_two_kept (fun ds ms Pd X h => by obtain ⟨_, _, _, _, _, _, rfl, _⟩ := h; rfl) (fun cdv Ar outer s H E hr hq => ?_)
  have tk := (L2N.takes_of (X := cxOf (L2N.CX P w) P w K mg base ["e"] "_law_two_kept" (defScope s__law_two_kept) f cdv Ar outer s H E) (E := E) rfl rfl rfl rfl)
  refine ⟨_, (pss_cons (ps_if (pt_val (pe_callB (crK (K := K) (r := rIsiX) rfl call_isiX) (by rfl) T.b_isinstance bt_isinstance (pa_cons (pv 0) (pa_cons (pe_glob (v := .ref _) rfl M_Twice rfl) pa_nil)))) (pss_one (ps_ret (pe_lst (pa_cons (pe_fldE (pv 0)) (pa_cons (pe_fldE (pv 0)) pa_nil))))) pss_nil) (pss_cons (ps_if (pt_val (pe_callB (crK (K := K) (r := rIsiX) rfl call_isiX) (by rfl) T.b_isinstance bt_isinstance (pa_cons (pv 0) (pa_cons (pe_glob (v := .ref _) rfl M_NotRight rfl) pa_nil)))) (pss_one (ps_ret (pe_lst (pa_cons (pe_fldE (pv 0)) (pa_cons (pe_fldE (pv 0)) pa_nil))))) pss_nil) (pss_one (ps_ret (pe_lst (pa_cons (pe_fldE (pv 0)) (pa_cons (pe_fldE (pv 0)) pa_nil))))))), ?_⟩
  try simp only [cxK]
  rintro _ ms Pd Xd ⟨D, f, g, d, d2, j, rfl, hj, hfl, hno, hng, q⟩ bl mb
  have hT := hC.t _ (List.mem_of_getElem? hj)
  have kj := fun (i : Nat) (C : Addr) (h : ([C0, C1, C2, C3, C4, C5, C6, C7, C8, C9, C10, C11, C12, C13, C14, C15, C16, C17, C18, C19, C20, C21, C22, C23, C24, C25, C26, C27, C28, C29, C30, C31, C32, C33, C34, C35, C36, C37] : List Addr)[i]? = some C) => hC.at hj h
  have jl : j < 4 := (List.getElem?_eq_some_iff.mp hfl).1
  have k1 := kj 35 C35 rfl
  have k2 := kj 37 C37 rfl
  repeat' first
    | walk_at "d1"
    | with_reducible refine dr_isiE hT k1 ?_
    | with_reducible refine dr_isiE hT k2 ?_
  · rename_i h
    have h : j = 1 := by omega
    subst h
    obtain ⟨rfl, rfl⟩ := Prod.mk.inj (Option.some.inj (show some (Str.ofString "house", Str.ofString "text") = some (f, g) from hfl))
    refine de_fldE (fs := [("text", d2), ("house", d)]) (d := d) hT hno rfl (de_var rfl ⟨rfl, ?_⟩)
    repeat' walk_at "d1"
    refine de_fldE (fs := [("text", d2), ("house", d)]) (d := d2) hT hng rfl (de_var rfl ⟨rfl, ?_⟩)
    repeat' walk_at "d1"
    exact .inl q
  · rename_i h
    have h : j = 3 := by omega
    subst h
    obtain ⟨rfl, rfl⟩ := Prod.mk.inj (Option.some.inj (show some (Str.ofString "road", Str.ofString "lines") = some (f, g) from hfl))
    refine de_fldE (fs := [("lines", d2), ("road", d)]) (d := d) hT hno rfl (de_var rfl ⟨rfl, ?_⟩)
    repeat' walk_at "d1"
    refine de_fldE (fs := [("lines", d2), ("road", d)]) (d := d2) hT hng rfl (de_var rfl ⟨rfl, ?_⟩)
    repeat' walk_at "d1"
    exact .inl q
  · rename_i h1 h2
    have h : j = 0 ∨ j = 2 := by omega
    have e : f = "u" ∧ g = "v" := by
      rcases h with h | h <;> (subst h; exact Prod.mk.inj (Option.some.inj hfl).symm)
    obtain ⟨rfl, rfl⟩ := e
    refine de_fldE (fs := [("v", d2), ("u", d)]) (d := d) hT hno rfl (de_var rfl ⟨rfl, ?_⟩)
    repeat' walk_at "d1"
    refine de_fldE (fs := [("v", d2), ("u", d)]) (d := d2) hT hng rfl (de_var rfl ⟨rfl, ?_⟩)
    repeat' walk_at "d1"
    exact .inl q
theorem okE_two_kept {f : Addr} {fd : FuncData} {C0 C1 C2 C3 C4 C5 C6 C7 C8 C9 C10 C11 C12 C13 C14 C15 C16 C17 C18 C19 C20 C21 C22 C23 C24 C25 C26 C27 C28 C29 C30 C31 C32 C33 C34 C35 C36 C37 L : Addr} (M_InvalidLine : mg "InvalidLine" = some (.ref C0)) (M_InvalidText : mg "InvalidText" = some (.ref C1)) (M_InvalidHouses : mg "InvalidHouses" = some (.ref C2)) (M_InvalidRoads : mg "InvalidRoads" = some (.ref C3)) (M_InvalidHouse : mg "InvalidHouse" = some (.ref C4)) (M_InvalidNames : mg "InvalidNames" = some (.ref C5)) (M_InvalidScript : mg "InvalidScript" = some (.ref C6)) (M_InvalidFounds : mg "InvalidFounds" = some (.ref C7)) (M_InvalidCount : mg "InvalidCount" = some (.ref C8)) (M_InvalidCounts : mg "InvalidCounts" = some (.ref C9)) (M_InvalidLater : mg "InvalidLater" = some (.ref C10)) (M_InvalidIndex : mg "InvalidIndex" = some (.ref C11)) (M_InvalidReaders : mg "InvalidReaders" = some (.ref C12)) (M_InvalidMap : mg "InvalidMap" = some (.ref C13)) (M_InvalidLot : mg "InvalidLot" = some (.ref C14)) (M_InvalidSeats : mg "InvalidSeats" = some (.ref C15)) (M_InvalidName : mg "InvalidName" = some (.ref C16)) (M_InvalidOwns : mg "InvalidOwns" = some (.ref C17)) (M_InvalidLines : mg "InvalidLines" = some (.ref C18)) (M_InvalidWriters : mg "InvalidWriters" = some (.ref C19)) (M_InvalidRows : mg "InvalidRows" = some (.ref C20)) (M_NotJoined : mg "NotJoined" = some (.ref C21)) (M_Stopped : mg "Stopped" = some (.ref C22)) (M_Refused : mg "Refused" = some (.ref C23)) (M_Ringed : mg "Ringed" = some (.ref C24)) (M_NoRow : mg "NoRow" = some (.ref C25)) (M_NotTwo : mg "NotTwo" = some (.ref C26)) (M_Nobodys : mg "Nobodys" = some (.ref C27)) (M_Crossed : mg "Crossed" = some (.ref C28)) (M_NotWhole : mg "NotWhole" = some (.ref C29)) (M_Fitless : mg "Fitless" = some (.ref C30)) (M_Clash : mg "Clash" = some (.ref C31)) (M_TooMany : mg "TooMany" = some (.ref C32)) (M_NoLetter : mg "NoLetter" = some (.ref C33)) (M_NotARoad : mg "NotARoad" = some (.ref C34)) (M_Twice : mg "Twice" = some (.ref C35)) (M_NothingUnderWay : mg "NothingUnderWay" = some (.ref C36)) (M_NotRight : mg "NotRight" = some (.ref C37)) (M_LostError : mg "LostError" = some (.ref L)) (hC : Cls K L [C0, C1, C2, C3, C4, C5, C6, C7, C8, C9, C10, C11, C12, C13, C14, C15, C16, C17, C18, C19, C20, C21, C22, C23, C24, C25, C26, C27, C28, C29, C30, C31, C32, C33, C34, C35, C36, C37]) (F : Fun K "_law_two_kept" "_law_two_kept" s__law_two_kept f fd) (T : Txt K mg) :
    FnGE P w K mg base (L2N.CX P w) 1 f fd ["e"] (fun a D dd => spD K (pmE_two K [C0, C1, C2, C3, C4, C5, C6, C7, C8, C9, C10, C11, C12, C13, C14, C15, C16, C17, C18, C19, C20, C21, C22, C23, C24, C25, C26, C27, C28, C29, C30, C31, C32, C33, C34, C35, C36, C37] a D dd)) := by
  refine fn_dlE F sc__law_two_kept (fun a D dd ds ms Pd X h => by obtain ⟨_, _, _, _, _, rfl, _⟩ := h; rfl) (fun cdv Ar outer s H E p D dd hot hz hrh hq => ?_)
  have hc : L2H.HotC (L2H.cxH (L2N.CX P w) P w K mg base ["e"] "_law_two_kept" (defScope s__law_two_kept) f cdv Ar outer s H E p) := ⟨p, hot, List.mem_singleton.mpr rfl⟩
  have hun : (Ar.deeper (envOfC "_law_two_kept" (defScope s__law_two_kept) s.heap.objs.size f cdv)).units + 64 < cLine := by have := hrh.un; omega
  have hf := hotF hot
  refine ⟨_, (pss_cons (ps_if (pt_val (pe_callB (crK (K := K) (r := rIsiW p.1 D dd) rfl (call_isiW (List.mem_singleton.mpr rfl) hz hf)) (by rfl) T.b_isinstance bt_isinstance (pa_cons (pv 0) (pa_cons (pe_glob (v := .ref _) rfl M_Twice rfl) pa_nil)))) (pss_one (ps_ret (pe_lst (pa_cons (pe_fldZ rfl (List.mem_singleton.mpr rfl) hz hf (pv 0)) (pa_cons (pe_fldZ rfl (List.mem_singleton.mpr rfl) hz hf (pv 0)) pa_nil))))) pss_nil) (pss_cons (ps_if (pt_val (pe_callB (crK (K := K) (r := rIsiW p.1 D dd) rfl (call_isiW (List.mem_singleton.mpr rfl) hz hf)) (by rfl) T.b_isinstance bt_isinstance (pa_cons (pv 0) (pa_cons (pe_glob (v := .ref _) rfl M_NotRight rfl) pa_nil)))) (pss_one (ps_ret (pe_lst (pa_cons (pe_fldZ rfl (List.mem_singleton.mpr rfl) hz hf (pv 0)) (pa_cons (pe_fldZ rfl (List.mem_singleton.mpr rfl) hz hf (pv 0)) pa_nil))))) pss_nil) (pss_one (ps_ret (pe_lst (pa_cons (pe_fldZ rfl (List.mem_singleton.mpr rfl) hz hf (pv 0)) (pa_cons (pe_fldZ rfl (List.mem_singleton.mpr rfl) hz hf (pv 0)) pa_nil))))))), ?_⟩
  try simp only [cxK, cxHK]
  rintro _ ms Pd Xd ⟨f, g, d, d2, j, rfl, hj, hfl, hno, hng, q⟩ bl mb
  have hT := hC.t _ (List.mem_of_getElem? hj)
  have kj := fun (i : Nat) (C : Addr) (h : ([C0, C1, C2, C3, C4, C5, C6, C7, C8, C9, C10, C11, C12, C13, C14, C15, C16, C17, C18, C19, C20, C21, C22, C23, C24, C25, C26, C27, C28, C29, C30, C31, C32, C33, C34, C35, C36, C37] : List Addr)[i]? = some C) => hC.at hj h
  have jl : j < 4 := (List.getElem?_eq_some_iff.mp hfl).1
  have k1 := kj 35 C35 rfl
  have k2 := kj 37 C37 rfl
  repeat' first
    | walk_at "d1"
    | with_reducible refine dr_isiWh hT k1 ?_
    | with_reducible refine dr_isiWh hT k2 ?_
  · rename_i h
    have h : j = 1 := by omega
    subst h
    obtain ⟨rfl, rfl⟩ := Prod.mk.inj (Option.some.inj (show some (Str.ofString "house", Str.ofString "text") = some (f, g) from hfl))
    refine de_fldZh (fs := [("text", d2), ("house", d)]) (d := d) hT hno rfl (de_var rfl ⟨rfl, ?_⟩)
    repeat' walk_at "d1"
    refine de_fldZh (fs := [("text", d2), ("house", d)]) (d := d2) hT hng rfl (de_var rfl ⟨rfl, ?_⟩)
    repeat' walk_at "d1"
    exact .inl q
  · rename_i h
    have h : j = 3 := by omega
    subst h
    obtain ⟨rfl, rfl⟩ := Prod.mk.inj (Option.some.inj (show some (Str.ofString "road", Str.ofString "lines") = some (f, g) from hfl))
    refine de_fldZh (fs := [("lines", d2), ("road", d)]) (d := d) hT hno rfl (de_var rfl ⟨rfl, ?_⟩)
    repeat' walk_at "d1"
    refine de_fldZh (fs := [("lines", d2), ("road", d)]) (d := d2) hT hng rfl (de_var rfl ⟨rfl, ?_⟩)
    repeat' walk_at "d1"
    exact .inl q
  · rename_i h1 h2
    have h : j = 0 ∨ j = 2 := by omega
    have e : f = "u" ∧ g = "v" := by
      rcases h with h | h <;> (subst h; exact Prod.mk.inj (Option.some.inj hfl).symm)
    obtain ⟨rfl, rfl⟩ := e
    refine de_fldZh (fs := [("v", d2), ("u", d)]) (d := d) hT hno rfl (de_var rfl ⟨rfl, ?_⟩)
    repeat' walk_at "d1"
    refine de_fldZh (fs := [("v", d2), ("u", d)]) (d := d2) hT hng rfl (de_var rfl ⟨rfl, ?_⟩)
    repeat' walk_at "d1"
    exact .inl q
end
end K00
namespace K00
open PySem PySem.Spec PyProof.Rows L2 DL
local macro_rules | `(tactic| walk_at "hyp") => `(tactic| (first
  | (simp only [Bool.not_eq_true', Bool.not_eq_false', decide_eq_true_eq, decide_eq_false_iff_not, Bool.or_eq_true, Bool.and_eq_true, Bool.or_eq_false_iff, Bool.not_true, Bool.not_false, Bool.and_eq_false_iff] at *)
  | skip))
local macro_rules | `(tactic| walk_at "d1") => `(tactic| first
  | with_reducible refine ds_seq ?_
  | with_reducible refine ds_if ?_
  | with_reducible refine ds_ret ?_
  | with_reducible refine ds_set ?_
  | with_reducible refine ds_drop ?_
  | with_reducible refine ds_par ?_
  | with_reducible refine ds_par3 ?_
  | with_reducible refine ds_next ?_
  | with_reducible refine de_var rfl ?_
  | with_reducible refine de_int ?_
  | with_reducible refine de_str ?_
  | with_reducible refine de_bl ?_
  | with_reducible refine de_non ?_
  | with_reducible refine de_ty ?_
  | with_reducible refine de_ref ?_
  | with_reducible refine de_op ?_
  | with_reducible refine de_chain ?_
  | with_reducible refine de_un ?_
  | with_reducible refine de_dnew ?_
  | with_reducible refine de_disp1 ?_
  | with_reducible refine de_cb ?_
  | with_reducible refine de_bm ?_
  | with_reducible refine de_sl ?_
  | with_reducible refine de_tup ?_
  | with_reducible refine de_lst ?_
  | with_reducible refine de_fstr ?_
  | with_reducible refine de_fmtS ?_
  | with_reducible refine dj_cons ?_
  | with_reducible refine dj_nil ?_
  | with_reducible refine do_none ?_
  | with_reducible refine do_some ?_
  | with_reducible refine de_g0 (dds := []) (fun _ => .nil) ?_
  | with_reducible refine de_g (dds := []) (fun _ => .nil) ?_
  | with_reducible refine de_lc ?_
  | with_reducible refine di_str ?_
  | with_reducible refine di_tup ?_
  | with_reducible refine de_notV ?_
  | with_reducible refine de_andV ?_
  | with_reducible refine de_orV ?_
  | with_reducible refine de_if ?_
  | with_reducible refine dt_test ?_
  | with_reducible refine dt_B ?_
  | with_reducible refine dt_and ?_
  | with_reducible refine dt_or ?_
  | with_reducible refine dt_not ?_
  | with_reducible refine dt_yes ?_
  | with_reducible refine da_cons ?_
  | with_reducible refine da_nil ?_
  | with_reducible refine d2_leI ?_
  | with_reducible refine d2_ltI ?_
  | with_reducible refine d2_geI ?_
  | with_reducible refine d2_gtI ?_
  | with_reducible refine d2_addI ?_
  | with_reducible refine d2_sub ?_
  | ((with_reducible refine' d2_leS1 (sign1_cps _) ?hs1 ?_); (case hs1 => first | exact sg_a | exact sg_z | exact sg_sp | exact sg_ti))
  | ((with_reducible refine' d2_leS1 ?hs1 (sign1_cps _) ?_); (case hs1 => first | exact sg_a | exact sg_z | exact sg_sp | exact sg_ti))
  | with_reducible refine dr_int ?_
  | with_reducible refine dr_abs ?_
  | with_reducible refine dg_sub ?_
  | ((with_reducible refine' d2_ix ?hsq ?hix ?_); (case hsq => assumption); (case hix => rfl))
  | ((with_reducible refine' d2_mod ?hmod ?_); (case hmod => first | decide | omega))
  | ((with_reducible refine' d2_mul ?hmul ?_); (case hmul => exact mul_ok (by omega) (by omega)))
  | ((with_reducible refine' d2_div ?hdiv ?_); (case hdiv => exact div_ok (by first | decide | omega) (by omega)))
  | ((with_reducible refine' d2_pow ?hpow ?_); (case hpow => exact pow_ok (by decide) (by decide) (by omega)))
  | with_reducible refine d2_notI ?_
  | with_reducible refine d2_notSt ?_
  | with_reducible refine d2_notNn ?_
  | with_reducible refine d2_notT ?_
  | with_reducible refine d2_isI ?_
  | with_reducible refine d2_isNn ?_
  | with_reducible refine d2_isT ?_
  | with_reducible refine d2_neI ?_
  | with_reducible refine d2_eqI ?_
  | with_reducible refine d2_eqS ?_
  | with_reducible refine d2_neS ?_
  | with_reducible refine dr_isiK (by assumption) (by decide) (by first | assumption | exact isTyD_str _ | exact isTyD_tup _ | rfl) ?_
  | with_reducible refine dr_lenT ?_
  | with_reducible refine dr_lenL ?_
  | with_reducible refine dr_lenR ?_
  | with_reducible refine dr_lenC (by assumption) ?_
  | with_reducible refine ds_to ?_
  | with_reducible refine dg_name (by decide) ?_
  | with_reducible refine dg_tup2 ?_
  | with_reducible refine dg_tup3 ?_
  | with_reducible refine dg_tup4 ?_
  | with_reducible refine dgs_cons ?_
  | with_reducible refine dgs_nil ?_
  | with_reducible refine dr_lenS (by omega) ?_
  | with_reducible refine ⟨⟨by simp only [List.length_cons, List.length_nil], by simp only [List.length_cons, List.length_nil]; omega⟩, ?_⟩
  | with_reducible refine ⟨_, rfl, ?_⟩
  | with_reducible refine ⟨_, _, rfl, ?_⟩
  | with_reducible refine ⟨tyD_str, ?_⟩
  | with_reducible refine ⟨by omega, ?_⟩
  | with_reducible refine ⟨by (simp only [PySem.Str.length_append, len_empty, len_sp, List.length_cons, List.length_nil, List.length_append]; omega), ?_⟩
  | with_reducible refine bothT ?_
  | with_reducible refine bothF ?_
  | with_reducible refine bothNT ?_
  | with_reducible refine bothNF ?_
  | (with_reducible refine both (fun hc => ?_) (fun hc => ?_) <;> (try simp only [Bool.not_eq_true', Bool.not_eq_false', decide_eq_true_eq, decide_eq_false_iff_not] at hc) <;> (try (exfalso; omega)) <;> (try exact absurd rfl hc) <;> (try exact absurd trivial hc)))

local macro_rules | `(tactic| walk_at "sm") => `(tactic| first
  | with_reducible refine di_lst ?_
  | with_reducible refine as_lst ?_
  | ((with_reducible refine' d2_addSm ?hs1 ?hs2 ?hs3 (fun hs => ?_)); (case hs1 => assumption); (case hs2 => assumption); (case hs3 => omega))
  | ((with_reducible refine' d2_addL ?hal ?_); (case hal => (simp; try omega)))
  | with_reducible refine d1_neg ?_)

abbrev s__law_thing : Stmt := (topS 51)
theorem sc__law_thing : FnScope ["box", "menu"] ["box"] (defScope s__law_thing) := ⟨rfl, rfl, rfl, by decide +kernel, rfl, by decide +kernel, by decide +kernel⟩
abbrev s__law_same : Stmt := (topS 52)
theorem sc__law_same : FnScope ["kept", "thing"] ["kept", "thing"] (defScope s__law_same) := ⟨rfl, rfl, rfl, by decide +kernel, rfl, by decide +kernel, by decide +kernel⟩
section
variable {P : Program} {w : World} {K : PySem.W.Frag} {mg : Str → Option Value} {base : Heap}
/-- the law's values -/
def menuD (C : Addr) : List Dat := [.non, .bl true, .bl false, .int 0, .int 7, .str "", .str "round 7", .lst [], .lst [.int 1, .str "a"], .tup [], .tup [.int 1, .bl true], .dct [], .dct [(.inr "a", .lst [.int 3])], .lst [.non], .tup [.int 2, .tup [.str "b"]],
  .int (-(10 ^ Int.toNat 19)), .tup [.str "ann", .str "x"], .exc C [("given", .str "x")]]
inductive Th (C : Addr) : Dat → Prop
  | py {d : Dat} {p : PyData} {T : String} (v : ∀ ms, tyOf ms d = some T) (h : PyD d p) (s : Shows p) : Th C d
  | dk {xs : List (Key × Dat)} {ks : List Str} {ps : List PyData} (h : PyK xs ks ps) (s : (PyData.showableAll ps && !PyData.hasDictAll ps && decide (PyData.depthAll ps ≤ 40) && decide ((dictD ks ps).shown.length ≤ 1000000)) = true) : Th C (.dct xs)
  | ex : Th C (.exc C [("given", .str "x")])
theorem shows_by {p : PyData} (h : (p.showable && !p.hasDict && decide (p.depth ≤ 40) && decide (p.shown.length ≤ 1000000)) = true) : Shows p := by
  simp only [Bool.and_eq_true, Bool.not_eq_true', decide_eq_true_eq] at h
  exact ⟨h.1.1.1, h.1.1.2, h.1.2, h.2⟩
theorem th_menu {C : Addr} : ∀ d ∈ menuD C, Th C d := by
  intro d hd
  simp only [menuD, List.mem_cons, List.not_mem_nil, or_false] at hd
  rcases hd with h | h | h | h | h | h | h | h | h | h | h | h | h | h | h | h | h | h <;> subst h
  · exact .py (fun _ => rfl) (.non) (shows_by (by decide +kernel))
  · exact .py (fun _ => rfl) (.bl _) (shows_by (by decide +kernel))
  · exact .py (fun _ => rfl) (.bl _) (shows_by (by decide +kernel))
  · exact .py (fun _ => rfl) (.int _) (shows_by (by decide +kernel))
  · exact .py (fun _ => rfl) (.int _) (shows_by (by decide +kernel))
  · exact .py (fun _ => rfl) (.str _) (shows_by (by decide +kernel))
  · exact .py (fun _ => rfl) (.str _) (shows_by (by decide +kernel))
  · exact .py (fun _ => rfl) (.lst .nil) (shows_by (by decide +kernel))
  · exact .py (fun _ => rfl) (.lst (.cons (.int _) (.cons (.str _) .nil))) (shows_by (by decide +kernel))
  · exact .py (fun _ => rfl) (.tup .nil) (shows_by (by decide +kernel))
  · exact .py (fun _ => rfl) (.tup (.cons (.int _) (.cons (.bl _) .nil))) (shows_by (by decide +kernel))
  · exact .dk .nil (by decide +kernel)
  · exact .dk (.cons (.lst (.cons (.int _) .nil)) .nil) (by decide +kernel)
  · exact .py (fun _ => rfl) (.lst (.cons .non .nil)) (shows_by (by decide +kernel))
  · exact .py (fun _ => rfl) (.tup (.cons (.int _) (.cons (.tup (.cons (.str _) .nil)) .nil))) (shows_by (by decide +kernel))
  · exact .py (fun _ => rfl) (.int _) (shows_by (by decide +kernel))
  · exact .py (fun _ => rfl) (.tup (.cons (.str _) (.cons (.str _) .nil))) (shows_by (by decide +kernel))
  · exact .ex
theorem atI_in {α : Type} {l : List α} {k : Int} (h0 : 0 ≤ k) (h1 : k < l.length) : ∃ a ∈ l, atI l k = some a := by
  have h := atI_map (fun x : α => x) (l := l) h0 h1
  simpa using h
def pm_thing (K : PySem.W.Frag) (C : Addr) : Pm := fun ds ms P X => ∃ (k n : Nat) (xs : List Dat), ds = [.cell k] ∧ ms[k]? = some (.lst xs) ∧ BoxOk n xs ∧ n ≤ 1000 ∧ ∀ d ys, Th C d → BoxOk (n + 1) ys → P d (ms.set k (.lst ys))
theorem ok_thing {f g C I : Addr} {fd fdg fdI : FuncData} (F : Fun K "_law_thing" "_law_thing" s__law_thing f fd) (T : Txt K mg)
    (D__law_take : Df K mg "_law_take" g) (G__law_take : FnG P w K mg base (L2N.CX P w) 1 g fdg ["box", "many"] (spD K (pm_take K))) (b__law_take : Binds K fdg ["box", "many"] [])
    (E_InvalidText : ErrT K mg "InvalidText" "given" C I fdI) (I_InvalidText : FnOk P w K mg base (L2N.CX P w) 1 I fdI ["self", "given"] (spIni1 K "given")) :
    FnG P w K mg base (L2N.CX P w) 3 f fd ["box"] (spD K (pm_thing K C)) := by
  refine fn_dl F sc__law_thing (fun ds ms Pd X h => by obtain ⟨_, _, _, rfl, _⟩ := h; rfl) (fun cdv Ar outer s H E hr hq => ?_)
  have tk := (L2N.takes_of (X := cxOf (L2N.CX P w) P w K mg base ["box", "menu"] "_law_thing" (defScope s__law_thing) f cdv Ar outer s H E) (E := E) rfl rfl rfl rfl)
  refine ⟨_, (pss_cons (ps_set (i := 1) sc__law_thing.nd rfl (by first | exact Or.inl rfl | exact Or.inr rfl) (pe_lst (pa_cons pe_non (pa_cons pe_bl (pa_cons pe_bl (pa_cons pe_int (pa_cons pe_int (pa_cons pe_str (pa_cons pe_str (pa_cons (pe_lst pa_nil) (pa_cons (pe_lst (pa_cons pe_int (pa_cons pe_str pa_nil))) (pa_cons (pe_tup pa_nil) (pa_cons (pe_tup (pa_cons pe_int (pa_cons pe_bl pa_nil))) (pa_cons pe_dnewK (pa_cons (pe_disp (pps_cons pe_str (pe_lst (pa_cons pe_int pa_nil)) pps_nil) (by rfl) (by rfl) (fun z => by cases z) (by decide)) (pa_cons (pe_lst (pa_cons pe_non pa_nil)) (pa_cons (pe_tup (pa_cons pe_int (pa_cons (pe_tup (pa_cons pe_str pa_nil)) pa_nil))) pa_nil))))))))))))))))) (pss_cons (ps_set (i := 1) sc__law_thing.nd rfl (by first | exact Or.inl rfl | exact Or.inr rfl) (pe_op op_addA (pv 1) (pe_lst (pa_cons (pe_un un_neg (pe_op op_powA pe_int pe_int)) (pa_cons (pe_tup (pa_cons pe_str (pa_cons pe_str pa_nil))) (pa_cons (pe_newE E_InvalidText.t.o E_InvalidText.i E_InvalidText.ti I_InvalidText (hr.mono (by decide)) E_InvalidText.b passE rfl E_InvalidText.m (pa_cons pe_str pa_nil)) pa_nil)))))) (pss_one (ps_ret (pe_ix (ixK (K := K) (r := rIx) rfl ix_seq) (pv 1) (pe_g G__law_take (hr.mono (by decide)) hq rfl D__law_take.m D__law_take.k b__law_take .nil (fun σ => L2N.passAt tk σ) (pa_cons (pv 0) (pa_cons pe_int pa_nil))) (fun _ _ => rfl)))))), ?_⟩
  try simp only [cxK]
  rintro _ ms Pd Xd ⟨k, n, xs, rfl, hk, hb, hn, q⟩ bl mb
  have lt := ms_lt hk
  repeat' first
    | walk_at "d1"
    | walk_at "sm"
    | (with_reducible refine de_newE1 E_InvalidText.t.o E_InvalidText.no ?_)
  refine ⟨k, n, 18, xs, rfl, by omega, by omega, hk, hb, by omega, fun r ys r0 r1 b1 => ?_⟩
  obtain ⟨d, hd, ha⟩ := atI_in (l := menuD C) r0 r1
  exact d2_ix (.inl rfl) ha (.inl (q d ys (th_menu d hd) b1))
def pm_same (K : PySem.W.Frag) (C : Addr) : Pm := fun ds ms P X => ∃ d, ds = [d, d] ∧ Th C d ∧ P (.bl true) ms
theorem ok_same {f C I L : Addr} {fd fdI : FuncData} (F : Fun K "_law_same" "_law_same" s__law_same f fd) (T : Txt K mg)
    (E_InvalidText : ErrT K mg "InvalidText" "given" C I fdI) (M_LostError : mg "LostError" = some (.ref L)) (nC : KitNo K C) (nL : KitNo K L) (yC : PySem.W.kitOne K (.ref C) (.ref C) = some true) :
    FnG P w K mg base (L2N.CX P w) 1 f fd ["kept", "thing"] (spD K (pm_same K C)) := by
  have M_InvalidText := E_InvalidText.m
  refine fn_dl F sc__law_same (fun ds ms Pd X h => by obtain ⟨_, rfl, _⟩ := h; rfl) (fun cdv Ar outer s H E hr hq => ?_)
  have tk := (L2N.takes_of (X := cxOf (L2N.CX P w) P w K mg base ["kept", "thing"] "_law_same" (defScope s__law_same) f cdv Ar outer s H E) (E := E) rfl rfl rfl rfl)
  refine ⟨_, (pss_cons (ps_if (pt_val (pe_callB (crK (K := K) (r := rIsiX) rfl call_isiX) (by rfl) T.b_isinstance bt_isinstance (pa_cons (pv 1) (pa_cons (pe_glob (v := .ref _) rfl M_InvalidText rfl) pa_nil)))) (pss_one (ps_ret (pe_and (pe_callB (crK (K := K) (r := rIsiX) rfl call_isiX) (by rfl) T.b_isinstance bt_isinstance (pa_cons (pv 0) (pa_cons (pe_glob (v := .ref _) rfl M_InvalidText rfl) pa_nil))) (pe_one (pe_cmpR (opK (K := K) (r := rEqA) rfl (op_eqA hr.units)) (pe_fldE (pv 0)) pe_str (nomark _)))))) pss_nil) (pss_one (ps_ret (pe_and (pe_not (pe_callB (crK (K := K) (r := rIsiX) rfl call_isiX) (by rfl) T.b_isinstance bt_isinstance (pa_cons (pv 0) (pa_cons (pe_glob (v := .ref _) rfl M_LostError rfl) pa_nil)))) (pe_one (pe_cmpR (opK (K := K) (r := rEqA) rfl (op_eqA hr.units)) (pe_callB (crK (K := K) (r := rReprX) rfl (call_reprX hq hr.units)) (by rfl) T.b_repr bt_repr (pa_cons (pv 0) pa_nil)) (pe_callB (crK (K := K) (r := rReprX) rfl (call_reprX hq hr.units)) (by rfl) T.b_repr bt_repr (pa_cons (pv 1) pa_nil)) (nomark _))))))), ?_⟩
  try simp only [cxK]
  rintro _ ms Pd Xd ⟨d, rfl, hv, q⟩ bl mb
  cases hv with
  | @py d pd T' hT h sh =>
    have kC := nC _ (tyOf_in (hT ms))
    have kL := nL _ (tyOf_in (hT ms))
    have pv : PyV ms d pd := Or.inl h
    repeat' first
      | walk_at "d1"
      | with_reducible refine dr_isiC (hT ms) kC ?_
      | with_reducible refine dr_isiC (hT ms) kL ?_
      | with_reducible refine dr_reprX pv sh ?_
    exact fin_b q (by simp)
  | @dk xs ks ps h sh =>
    have hT : tyOf ms (.dct xs) = some "dict" := rfl
    have kC := nC _ (tyOf_in hT)
    have kL := nL _ (tyOf_in hT)
    repeat' first
      | walk_at "d1"
      | with_reducible refine dr_isiC hT kC ?_
      | with_reducible refine dr_isiC hT kL ?_
      | with_reducible refine dr_reprKx h sh ?_
    exact fin_b q (by simp)
  | ex =>
    repeat' first
      | walk_at "d1"
      | with_reducible refine dr_isiE E_InvalidText.t yC ?_
    refine de_fldE (C := C) (fs := [("given", .str "x")]) (d := .str "x") E_InvalidText.t E_InvalidText.no rfl ?_
    repeat' walk_at "d1"
    refine ⟨rfl, ?_⟩
    repeat' walk_at "d1"
    exact fin_b (b := true) q (by simp)
theorem okH_same {f C I L : Addr} {fd fdI : FuncData} (F : Fun K "_law_same" "_law_same" s__law_same f fd) (T : Txt K mg)
    (E_InvalidText : ErrT K mg "InvalidText" "given" C I fdI) (M_LostError : mg "LostError" = some (.ref L)) (nC : KitNo K C) (nL : KitNo K L) (yC : PySem.W.kitOne K (.ref C) (.ref C) = some true) :
    FnGH P w K mg base (L2N.CX P w) 1 f fd ["kept", "thing"] (spD K (pm_same K C)) := by
  have M_InvalidText := E_InvalidText.m
  refine fn_dlH F sc__law_same (fun ds ms Pd X h => by obtain ⟨_, rfl, _⟩ := h; rfl) (fun cdv Ar outer s H E p hot hrh hq => ?_)
  have hc : L2H.HotC (L2H.cxH (L2N.CX P w) P w K mg base ["kept", "thing"] "_law_same" (defScope s__law_same) f cdv Ar outer s H E p) := ⟨p, hot, List.mem_singleton.mpr rfl⟩
  have hun : (Ar.deeper (envOfC "_law_same" (defScope s__law_same) s.heap.objs.size f cdv)).units + 64 < cLine := by have := hrh.un; omega
  refine ⟨_, (pss_cons (ps_if (pt_val (pe_callB (crK (K := K) (r := rIsiX) rfl call_isiX) (by rfl) T.b_isinstance bt_isinstance (pa_cons (pv 1) (pa_cons (pe_glob (v := .ref _) rfl M_InvalidText rfl) pa_nil)))) (pss_one (ps_ret (pe_and (pe_callB (crK (K := K) (r := rIsiX) rfl call_isiX) (by rfl) T.b_isinstance bt_isinstance (pa_cons (pv 0) (pa_cons (pe_glob (v := .ref _) rfl M_InvalidText rfl) pa_nil))) (pe_one (pe_cmpR (opK (K := K) (r := rEqA) rfl (op_eqA hun)) (pe_fldE (pv 0)) pe_str (nomark _)))))) pss_nil) (pss_one (ps_ret (pe_and (pe_not (pe_callB (crK (K := K) (r := rIsiX) rfl call_isiX) (by rfl) T.b_isinstance bt_isinstance (pa_cons (pv 0) (pa_cons (pe_glob (v := .ref _) rfl M_LostError rfl) pa_nil)))) (pe_one (pe_cmpR (opK (K := K) (r := rEqA) rfl (op_eqA hun)) (pe_callB (crK (K := K) (r := rReprX) rfl (call_reprX hq hun)) (by rfl) T.b_repr bt_repr (pa_cons (pv 0) pa_nil)) (pe_callB (crK (K := K) (r := rReprX) rfl (call_reprX hq hun)) (by rfl) T.b_repr bt_repr (pa_cons (pv 1) pa_nil)) (nomark _))))))), ?_⟩
  try simp only [cxK, cxHK]
  rintro _ ms Pd Xd ⟨d, rfl, hv, q⟩ bl mb
  cases hv with
  | @py d pd T' hT h sh =>
    have kC := nC _ (tyOf_in (hT ms))
    have kL := nL _ (tyOf_in (hT ms))
    have pv : PyV ms d pd := Or.inl h
    repeat' first
      | walk_at "d1"
      | with_reducible refine dr_isiC (hT ms) kC ?_
      | with_reducible refine dr_isiC (hT ms) kL ?_
      | with_reducible refine dr_reprX pv sh ?_
    exact fin_b q (by simp)
  | @dk xs ks ps h sh =>
    have hT : tyOf ms (.dct xs) = some "dict" := rfl
    have kC := nC _ (tyOf_in hT)
    have kL := nL _ (tyOf_in hT)
    repeat' first
      | walk_at "d1"
      | with_reducible refine dr_isiC hT kC ?_
      | with_reducible refine dr_isiC hT kL ?_
      | with_reducible refine dr_reprKx h sh ?_
    exact fin_b q (by simp)
  | ex =>
    repeat' first
      | walk_at "d1"
      | with_reducible refine dr_isiE E_InvalidText.t yC ?_
    refine de_fldE (C := C) (fs := [("given", .str "x")]) (d := .str "x") E_InvalidText.t E_InvalidText.no rfl ?_
    repeat' walk_at "d1"
    refine ⟨rfl, ?_⟩
    repeat' walk_at "d1"
    exact fin_b (b := true) q (by simp)
end
end K00
namespace K00
open PySem PySem.Spec PyProof.Rows L2 DL
local macro_rules | `(tactic| walk_at "hyp") => `(tactic| (first
  | (simp only [Bool.not_eq_true', Bool.not_eq_false', decide_eq_true_eq, decide_eq_false_iff_not, Bool.or_eq_true, Bool.and_eq_true, Bool.or_eq_false_iff, Bool.not_true, Bool.not_false, Bool.and_eq_false_iff] at *)
  | skip))
local macro_rules | `(tactic| walk_at "d1") => `(tactic| first
  | with_reducible refine ds_seq ?_
  | with_reducible refine ds_if ?_
  | with_reducible refine ds_ret ?_
  | with_reducible refine ds_set ?_
  | with_reducible refine ds_drop ?_
  | with_reducible refine ds_par ?_
  | with_reducible refine ds_par3 ?_
  | with_reducible refine ds_next ?_
  | with_reducible refine de_var rfl ?_
  | with_reducible refine de_int ?_
  | with_reducible refine de_str ?_
  | with_reducible refine de_bl ?_
  | with_reducible refine de_non ?_
  | with_reducible refine de_ty ?_
  | with_reducible refine de_ref ?_
  | with_reducible refine de_op ?_
  | with_reducible refine de_chain ?_
  | with_reducible refine de_un ?_
  | with_reducible refine de_dnew ?_
  | with_reducible refine de_disp1 ?_
  | with_reducible refine de_cb ?_
  | with_reducible refine de_bm ?_
  | with_reducible refine de_sl ?_
  | with_reducible refine de_tup ?_
  | with_reducible refine de_lst ?_
  | with_reducible refine de_fstr ?_
  | with_reducible refine de_fmtS ?_
  | with_reducible refine dj_cons ?_
  | with_reducible refine dj_nil ?_
  | with_reducible refine do_none ?_
  | with_reducible refine do_some ?_
  | with_reducible refine de_g0 (dds := []) (fun _ => .nil) ?_
  | with_reducible refine de_g (dds := []) (fun _ => .nil) ?_
  | with_reducible refine de_lc ?_
  | with_reducible refine di_str ?_
  | with_reducible refine di_tup ?_
  | with_reducible refine de_notV ?_
  | with_reducible refine de_andV ?_
  | with_reducible refine de_orV ?_
  | with_reducible refine de_if ?_
  | with_reducible refine dt_test ?_
  | with_reducible refine dt_B ?_
  | with_reducible refine dt_and ?_
  | with_reducible refine dt_or ?_
  | with_reducible refine dt_not ?_
  | with_reducible refine dt_yes ?_
  | with_reducible refine da_cons ?_
  | with_reducible refine da_nil ?_
  | with_reducible refine d2_leI ?_
  | with_reducible refine d2_ltI ?_
  | with_reducible refine d2_geI ?_
  | with_reducible refine d2_gtI ?_
  | with_reducible refine d2_addI ?_
  | with_reducible refine d2_sub ?_
  | ((with_reducible refine' d2_leS1 (sign1_cps _) ?hs1 ?_); (case hs1 => first | exact sg_a | exact sg_z | exact sg_sp | exact sg_ti))
  | ((with_reducible refine' d2_leS1 ?hs1 (sign1_cps _) ?_); (case hs1 => first | exact sg_a | exact sg_z | exact sg_sp | exact sg_ti))
  | with_reducible refine dr_int ?_
  | with_reducible refine dr_abs ?_
  | with_reducible refine dg_sub ?_
  | ((with_reducible refine' d2_ix ?hsq ?hix ?_); (case hsq => assumption); (case hix => rfl))
  | ((with_reducible refine' d2_mod ?hmod ?_); (case hmod => first | decide | omega))
  | ((with_reducible refine' d2_mul ?hmul ?_); (case hmul => exact mul_ok (by omega) (by omega)))
  | ((with_reducible refine' d2_div ?hdiv ?_); (case hdiv => exact div_ok (by first | decide | omega) (by omega)))
  | ((with_reducible refine' d2_pow ?hpow ?_); (case hpow => exact pow_ok (by decide) (by decide) (by omega)))
  | with_reducible refine d2_notI ?_
  | with_reducible refine d2_notSt ?_
  | with_reducible refine d2_notNn ?_
  | with_reducible refine d2_notT ?_
  | with_reducible refine d2_isI ?_
  | with_reducible refine d2_isNn ?_
  | with_reducible refine d2_isT ?_
  | with_reducible refine d2_neI ?_
  | with_reducible refine d2_eqI ?_
  | with_reducible refine d2_eqS ?_
  | with_reducible refine d2_neS ?_
  | with_reducible refine dr_isiK (by assumption) (by decide) (by first | assumption | exact isTyD_str _ | exact isTyD_tup _ | rfl) ?_
  | with_reducible refine dr_lenT ?_
  | with_reducible refine dr_lenL ?_
  | with_reducible refine dr_lenR ?_
  | with_reducible refine dr_lenC (by assumption) ?_
  | with_reducible refine ds_to ?_
  | with_reducible refine dg_name (by decide) ?_
  | with_reducible refine dg_tup2 ?_
  | with_reducible refine dg_tup3 ?_
  | with_reducible refine dg_tup4 ?_
  | with_reducible refine dgs_cons ?_
  | with_reducible refine dgs_nil ?_
  | with_reducible refine dr_lenS (by omega) ?_
  | with_reducible refine ⟨⟨by simp only [List.length_cons, List.length_nil], by simp only [List.length_cons, List.length_nil]; omega⟩, ?_⟩
  | with_reducible refine ⟨_, rfl, ?_⟩
  | with_reducible refine ⟨_, _, rfl, ?_⟩
  | with_reducible refine ⟨tyD_str, ?_⟩
  | with_reducible refine ⟨by omega, ?_⟩
  | with_reducible refine ⟨by (simp only [PySem.Str.length_append, len_empty, len_sp, List.length_cons, List.length_nil, List.length_append]; omega), ?_⟩
  | with_reducible refine bothT ?_
  | with_reducible refine bothF ?_
  | with_reducible refine bothNT ?_
  | with_reducible refine bothNF ?_
  | (with_reducible refine both (fun hc => ?_) (fun hc => ?_) <;> (try simp only [Bool.not_eq_true', Bool.not_eq_false', decide_eq_true_eq, decide_eq_false_iff_not] at hc) <;> (try (exfalso; omega)) <;> (try exact absurd rfl hc) <;> (try exact absurd trivial hc)))

local macro_rules | `(tactic| walk_at "sm") => `(tactic| first
  | with_reducible refine di_lst ?_
  | with_reducible refine as_lst ?_
  | ((with_reducible refine' d2_addSm ?hs1 ?hs2 ?hs3 (fun hs => ?_)); (case hs1 => assumption); (case hs2 => assumption); (case hs3 => omega))
  | ((with_reducible refine' d2_addL ?hal ?_); (case hal => (simp; try omega)))
  | with_reducible refine d1_neg ?_)

abbrev s__law_caught : Stmt := (topS 53)
theorem sc__law_caught : FnScope ["box", "thing", "more", "way", "e", "told"] ["box", "thing", "more"] (defScope s__law_caught) := ⟨rfl, rfl, rfl, by decide +kernel, rfl, by decide +kernel, by decide +kernel⟩
section
variable {P : Program} {w : World} {K : PySem.W.Frag} {mg : Str → Option Value} {base : Heap}
theorem d2_inB {ms : Ms} {Q : Dat → Ms → Prop} {i : Int} {b : Bool} (is : List Int) (e : is.contains i = b) (q : Q (.bl b) ms) : D2 K (rInA K) (.int i) (.lst (is.map Dat.int)) ms Q := d2_inIs (.inl rfl) (by rw [e]; exact q)
def pm_caught (K : PySem.W.Frag) (C : Addr) : Pm := fun ds ms P X => ∃ (k n : Nat) (xs : List Dat) (d d2 : Dat), ds = [.cell k, d, d2] ∧ ms[k]? = some (.lst xs) ∧ BoxOk n xs ∧ n ≤ 1000 ∧ Th C d ∧ Th C d2 ∧ ∀ ys, BoxOk (n + 1) ys → P (.bl true) (ms.set k (.lst ys))
theorem ok_caught {f : Addr} {fd : FuncData} {C0 C1 C2 C3 C4 C5 C6 C7 C8 C9 C10 C11 C12 C13 C14 C15 C16 C17 C18 C19 C20 C21 C22 C23 C24 C25 C26 C27 C28 C29 C30 C31 C32 C33 C34 C35 C36 C37 L : Addr} (F : Fun K "_law_caught" "_law_caught" s__law_caught f fd) (T : Txt K mg)
    {I22 : Addr} {fI22 : FuncData} (E_Stopped : ErrT K mg "Stopped" "house" C22 I22 fI22) (I_Stopped : FnOk P w K mg base (L2N.CX P w) 1 I22 fI22 ["self", "house"] (spIni1 K "house"))
    {I9 : Addr} {fI9 : FuncData} (E_InvalidCounts : ErrT K mg "InvalidCounts" "given" C9 I9 fI9) (I_InvalidCounts : FnOk P w K mg base (L2N.CX P w) 1 I9 fI9 ["self", "given"] (spIni1 K "given"))
    {I35 : Addr} {fI35 : FuncData} (E_Twice : ErrT2 K mg "Twice" "house" "text" C35 I35 fI35) (I_Twice : FnOk P w K mg base (L2N.CX P w) 1 I35 fI35 ["self", "house", "text"] (spIni2 K "house" "text"))
    {I36 : Addr} {fI36 : FuncData} (E_NothingUnderWay : ErrT2 K mg "NothingUnderWay" "u" "v" C36 I36 fI36) (I_NothingUnderWay : FnOk P w K mg base (L2N.CX P w) 1 I36 fI36 ["self", "u", "v"] (spIni2 K "u" "v"))
    {I37 : Addr} {fI37 : FuncData} (E_NotRight : ErrT2 K mg "NotRight" "road" "lines" C37 I37 fI37) (I_NotRight : FnOk P w K mg base (L2N.CX P w) 1 I37 fI37 ["self", "road", "lines"] (spIni2 K "road" "lines"))
    {I28 : Addr} {fI28 : FuncData} (E_Crossed : ErrT K mg "Crossed" "cross" C28 I28 fI28) (I_Crossed : FnOk P w K mg base (L2N.CX P w) 1 I28 fI28 ["self", "cross"] (spIni1 K "cross"))
    {g0 : Addr} {fd0 : FuncData} (D__law_take : Df K mg "_law_take" g0) (G__law_take : FnG P w K mg base (L2N.CX P w) 1 g0 fd0 ["box", "many"] (spD K (pm_take K))) (b__law_take : Binds K fd0 ["box", "many"] [])
    {g1 : Addr} {fd1 : FuncData} (D__law_same : Df K mg "_law_same" g1) (H__law_same : FnGH P w K mg base (L2N.CX P w) 1 g1 fd1 ["kept", "thing"] (spD K (pm_same K C1))) (b__law_same : Binds K fd1 ["kept", "thing"] [])
    {g2 : Addr} {fd2 : FuncData} (D__law_is : Df K mg "_law_is" g2) (HE__law_is : FnGE P w K mg base (L2N.CX P w) 2 g2 fd2 ["e", "spot"] (fun a D dd => spD K (pmE_is K [C0, C1, C2, C3, C4, C5, C6, C7, C8, C9, C10, C11, C12, C13, C14, C15, C16, C17, C18, C19, C20, C21, C22, C23, C24, C25, C26, C27, C28, C29, C30, C31, C32, C33, C34, C35, C36, C37] a D dd))) (b__law_is : Binds K fd2 ["e", "spot"] [])
    {g3 : Addr} {fd3 : FuncData} (D__law_kept : Df K mg "_law_kept" g3) (HE__law_kept : FnGE P w K mg base (L2N.CX P w) 1 g3 fd3 ["e"] (fun a D dd => spD K (pmE_kept K [C0, C1, C2, C3, C4, C5, C6, C7, C8, C9, C10, C11, C12, C13, C14, C15, C16, C17, C18, C19, C20, C21, C22, C23, C24, C25, C26, C27, C28, C29, C30, C31, C32, C33, C34, C35, C36, C37] a D dd))) (b__law_kept : Binds K fd3 ["e"] [])
    {g4 : Addr} {fd4 : FuncData} (D__law_two_kept : Df K mg "_law_two_kept" g4) (HE__law_two_kept : FnGE P w K mg base (L2N.CX P w) 1 g4 fd4 ["e"] (fun a D dd => spD K (pmE_two K [C0, C1, C2, C3, C4, C5, C6, C7, C8, C9, C10, C11, C12, C13, C14, C15, C16, C17, C18, C19, C20, C21, C22, C23, C24, C25, C26, C27, C28, C29, C30, C31, C32, C33, C34, C35, C36, C37] a D dd))) (b__law_two_kept : Binds K fd4 ["e"] [])
    (M_LostError : mg "LostError" = some (.ref L)) (hC : Cls K L [C0, C1, C2, C3, C4, C5, C6, C7, C8, C9, C10, C11, C12, C13, C14, C15, C16, C17, C18, C19, C20, C21, C22, C23, C24, C25, C26, C27, C28, C29, C30, C31, C32, C33, C34, C35, C36, C37]) (hX : ∀ D ∈ ([C0, C1, C2, C3, C4, C5, C6, C7, C8, C9, C10, C11, C12, C13, C14, C15, C16, C17, C18, C19, C20, C21, C22, C23, C24, C25, C26, C27, C28, C29, C30, C31, C32, C33, C34, C35, C36, C37] : List Addr), PySem.W.exmOne K (.ref D) (.ref L) = some true) :
    FnG P w K mg base (L2N.CX P w) 4 f fd ["box", "thing", "more"] (spD K (pm_caught K C1)) := by
  refine fn_dl F sc__law_caught (fun ds ms Pd X h => by obtain ⟨_, _, _, _, _, rfl, _⟩ := h; rfl) (fun cdv Ar outer s H E hr hq => ?_)
  have tk := (L2N.takes_of (X := cxOf (L2N.CX P w) P w K mg base ["box", "thing", "more", "way", "e", "told"] "_law_caught" (defScope s__law_caught) f cdv Ar outer s H E) (E := E) rfl rfl rfl rfl)
  refine ⟨_, (pss_cons (ps_set (i := 3) sc__law_caught.nd rfl (by first | exact Or.inl rfl | exact Or.inr rfl) (pe_g G__law_take (hr.mono (by decide)) hq rfl D__law_take.m D__law_take.k b__law_take .nil (fun σ => L2N.passAt tk σ) (pa_cons (pv 0) (pa_cons pe_int pa_nil)))) (pss_one (ps_tryK (K := K) (i := 4) rfl rfl rfl sc__law_caught.nd rfl rfl (c := .ref _) ⟨rfl, by decide, .inl M_LostError⟩ tk (fun W pn xe tk _ => (pss_cons (ps_if (pt_cmpR (opK (K := K) (r := rEqA) rfl (op_eqA hr.units)) (pv 3) pe_int (nomark _)) (pss_one (ps_raiseA rfl tk E_Stopped.t.o E_Stopped.i E_Stopped.ti I_Stopped (hr.mono (by decide)) E_Stopped.b rfl E_Stopped.m (pa_cons (pv 1) pa_nil))) pss_nil) (pss_cons (ps_if (pt_cmpR (opK (K := K) (r := rEqA) rfl (op_eqA hr.units)) (pv 3) pe_int (nomark _)) (pss_one (ps_raiseK0 rfl tk E_InvalidCounts.t.o E_InvalidCounts.i E_InvalidCounts.ti I_InvalidCounts (hr.mono (by decide)) E_InvalidCounts.kA rfl E_InvalidCounts.m (pk_cons (pv 1) pk_nil))) pss_nil) (pss_cons (ps_if (pt_cmpR (opK (K := K) (r := rEqA) rfl (op_eqA hr.units)) (pv 3) pe_int (nomark _)) (pss_one (ps_raiseK0 rfl tk E_Twice.t.o E_Twice.i E_Twice.ti I_Twice (hr.mono (by decide)) E_Twice.kR rfl E_Twice.m (pk_cons (pv 2) (pk_cons (pv 1) pk_nil)))) pss_nil) (pss_cons (ps_if (pt_cmpR (opK (K := K) (r := rEqA) rfl (op_eqA hr.units)) (pv 3) pe_int (nomark _)) (pss_one (ps_raiseA rfl tk E_NothingUnderWay.t.o E_NothingUnderWay.i E_NothingUnderWay.ti I_NothingUnderWay (hr.mono (by decide)) E_NothingUnderWay.b rfl E_NothingUnderWay.m (pa_cons (pv 1) (pa_cons (pv 2) pa_nil)))) pss_nil) (pss_cons (ps_if (pt_cmpR (opK (K := K) (r := rEqA) rfl (op_eqA hr.units)) (pv 3) pe_int (nomark _)) (pss_one (ps_raiseK0 rfl tk E_NotRight.t.o E_NotRight.i E_NotRight.ti I_NotRight (hr.mono (by decide)) E_NotRight.kR rfl E_NotRight.m (pk_cons (pv 2) (pk_cons (pv 1) pk_nil)))) pss_nil) (pss_one (ps_raiseK0 rfl tk E_Crossed.t.o E_Crossed.i E_Crossed.ti I_Crossed (hr.mono (by decide)) E_Crossed.kA rfl E_Crossed.m (pk_cons (pv 1) pk_nil))))))))) (fun a oe cls d pn hz hf => (pss_cons (ps_if (pt_not (pt_val (pe_gZ HE__law_is (roomS (hr.mono (by decide))) (hq.mark _) (hot1S hz hf) List.mem_cons_self hz rfl D__law_is.m D__law_is.k b__law_is (fun σ => passN σ) (pa_cons (pv 4) (pa_cons (pe_ix (ixK (K := K) (r := rIx) rfl ix_seq) (pe_lst (pa_cons pe_int (pa_cons pe_int (pa_cons pe_int (pa_cons pe_int (pa_cons pe_int (pa_cons pe_int pa_nil))))))) (pv 3) (fun _ _ => rfl)) pa_nil))))) (pss_one (ps_ret pe_bl)) pss_nil) (pss_cons (ps_if (pt_cmpR (opK (K := K) (r := rInA) rfl op_inA) (pv 3) (pe_lst (pa_cons pe_int (pa_cons pe_int (pa_cons pe_int pa_nil)))) (by rfl)) (pss_cons (ps_set (i := 5) sc__law_caught.nd rfl (by first | exact Or.inl rfl | exact Or.inr rfl) (pe_gZ HE__law_two_kept (roomS (hr.mono (by decide))) (hq.mark _) (hot1S hz hf) List.mem_cons_self hz rfl D__law_two_kept.m D__law_two_kept.k b__law_two_kept (fun σ => passN σ) (pa_cons (pv 4) pa_nil))) (pss_one (ps_ret (pe_and (pe_gH H__law_same (roomS (hr.mono (by decide))) (hq.mark _) (hotSuite hz hf) rfl D__law_same.m D__law_same.k b__law_same .nil (fun σ => passN σ) (pa_cons (pe_ix (ixK (K := K) (r := rIx) rfl ix_seq) (pv 5) pe_int (fun _ _ => rfl)) (pa_cons (pv 1) pa_nil))) (pe_one (pe_gH H__law_same (roomS (hr.mono (by decide))) (hq.mark _) (hotSuite hz hf) rfl D__law_same.m D__law_same.k b__law_same .nil (fun σ => passN σ) (pa_cons (pe_ix (ixK (K := K) (r := rIx) rfl ix_seq) (pv 5) pe_int (fun _ _ => rfl)) (pa_cons (pv 2) pa_nil)))))))) pss_nil) (pss_one (ps_ret (pe_gH H__law_same (roomS (hr.mono (by decide))) (hq.mark _) (hotSuite hz hf) rfl D__law_same.m D__law_same.k b__law_same .nil (fun σ => passN σ) (pa_cons (pe_gZ HE__law_kept (roomS (hr.mono (by decide))) (hq.mark _) (hot1S hz hf) List.mem_cons_self hz rfl D__law_kept.m D__law_kept.k b__law_kept (fun σ => passN σ) (pa_cons (pv 4) pa_nil)) (pa_cons (pv 1) pa_nil))))))))))), ?_⟩
  try simp only [cxK]
  rintro _ ms Pd Xd ⟨k, n, xs, d, d2, rfl, hk, hb, hn, h1, h2, q⟩ bl mb
  have lt := ms_lt hk
  repeat' walk_at "d1"
  refine ⟨k, n, 6, xs, rfl, by omega, by omega, hk, hb, by omega, fun r ys r0 r1 b1 => ?_⟩
  have q1 := q ys b1
  have sixs : r = 0 ∨ r = 1 ∨ r = 2 ∨ r = 3 ∨ r = 4 ∨ r = 5 := by omega
  repeat' walk_at "d1"
  refine ds_tryK fun R' => ?_
  rcases sixs with e | e | e | e | e | e <;> subst e
  · have hD : C22 ∈ ([C0, C1, C2, C3, C4, C5, C6, C7, C8, C9, C10, C11, C12, C13, C14, C15, C16, C17, C18, C19, C20, C21, C22, C23, C24, C25, C26, C27, C28, C29, C30, C31, C32, C33, C34, C35, C36, C37] : List Addr) := by simp only [List.mem_cons, true_or, or_true]
    repeat' walk_at "d1"
    refine ds_raise1 E_Stopped.t.o E_Stopped.no ?_
    repeat' walk_at "d1"
    refine ⟨true, hX _ hD, fun _ a dd => ?_, fun z => by cases z⟩
    repeat' first
      | walk_at "d1"
      | with_reducible refine de_gZ ?_
    refine d2_ix (.inl rfl) rfl ?_
    repeat' walk_at "d1"
    refine ⟨[("house", d)], 22, 22, rfl, rfl, ?_⟩
    repeat' first
      | walk_at "d1"
      | with_reducible refine de_gZ ?_
      | (refine d2_inB [2, 3, 4] (b := false) (by decide) ?_)
    refine ⟨"house", d, 22, rfl, rfl, rfl, E_Stopped.no, ?_⟩
    repeat' walk_at "d1"
    exact ⟨d, rfl, h1, .inl q1⟩
  · have hD : C9 ∈ ([C0, C1, C2, C3, C4, C5, C6, C7, C8, C9, C10, C11, C12, C13, C14, C15, C16, C17, C18, C19, C20, C21, C22, C23, C24, C25, C26, C27, C28, C29, C30, C31, C32, C33, C34, C35, C36, C37] : List Addr) := by simp only [List.mem_cons, true_or, or_true]
    repeat' walk_at "d1"
    refine ds_raiseK1 ord_app E_InvalidCounts.t.o E_InvalidCounts.no ?_
    repeat' walk_at "d1"
    refine ⟨true, hX _ hD, fun _ a dd => ?_, fun z => by cases z⟩
    repeat' first
      | walk_at "d1"
      | with_reducible refine de_gZ ?_
    refine d2_ix (.inl rfl) rfl ?_
    repeat' walk_at "d1"
    refine ⟨[("given", d)], 9, 9, rfl, rfl, ?_⟩
    repeat' first
      | walk_at "d1"
      | with_reducible refine de_gZ ?_
      | (refine d2_inB [2, 3, 4] (b := false) (by decide) ?_)
    refine ⟨"given", d, 9, rfl, rfl, rfl, E_InvalidCounts.no, ?_⟩
    repeat' walk_at "d1"
    exact ⟨d, rfl, h1, .inl q1⟩
  · have hD : C35 ∈ ([C0, C1, C2, C3, C4, C5, C6, C7, C8, C9, C10, C11, C12, C13, C14, C15, C16, C17, C18, C19, C20, C21, C22, C23, C24, C25, C26, C27, C28, C29, C30, C31, C32, C33, C34, C35, C36, C37] : List Addr) := by simp only [List.mem_cons, true_or, or_true]
    repeat' walk_at "d1"
    refine ds_raiseK2 ord_rev E_Twice.t.o E_Twice.no E_Twice.ng ?_
    repeat' walk_at "d1"
    refine ⟨true, hX _ hD, fun _ a dd => ?_, fun z => by cases z⟩
    repeat' first
      | walk_at "d1"
      | with_reducible refine de_gZ ?_
    refine d2_ix (.inl rfl) rfl ?_
    repeat' walk_at "d1"
    refine ⟨[("text", d2), ("house", d)], 35, 35, rfl, rfl, ?_⟩
    repeat' first
      | walk_at "d1"
      | with_reducible refine de_gZ ?_
      | (refine d2_inB [2, 3, 4] (b := true) (by decide) ?_)
    refine ⟨"house", "text", d, d2, 1, rfl, rfl, rfl, E_Twice.no, E_Twice.ng, ?_⟩
    repeat' walk_at "d1"
    refine d2_ix (.inl rfl) rfl ?_
    repeat' walk_at "d1"
    refine ⟨d, rfl, h1, ?_⟩
    repeat' walk_at "d1"
    refine d2_ix (.inl rfl) rfl ?_
    repeat' walk_at "d1"
    exact ⟨d2, rfl, h2, .inl q1⟩
  · have hD : C36 ∈ ([C0, C1, C2, C3, C4, C5, C6, C7, C8, C9, C10, C11, C12, C13, C14, C15, C16, C17, C18, C19, C20, C21, C22, C23, C24, C25, C26, C27, C28, C29, C30, C31, C32, C33, C34, C35, C36, C37] : List Addr) := by simp only [List.mem_cons, true_or, or_true]
    repeat' walk_at "d1"
    refine ds_raise2 E_NothingUnderWay.t.o E_NothingUnderWay.no E_NothingUnderWay.ng ?_
    repeat' walk_at "d1"
    refine ⟨true, hX _ hD, fun _ a dd => ?_, fun z => by cases z⟩
    repeat' first
      | walk_at "d1"
      | with_reducible refine de_gZ ?_
    refine d2_ix (.inl rfl) rfl ?_
    repeat' walk_at "d1"
    refine ⟨[("v", d2), ("u", d)], 36, 36, rfl, rfl, ?_⟩
    repeat' first
      | walk_at "d1"
      | with_reducible refine de_gZ ?_
      | (refine d2_inB [2, 3, 4] (b := true) (by decide) ?_)
    refine ⟨"u", "v", d, d2, 2, rfl, rfl, rfl, E_NothingUnderWay.no, E_NothingUnderWay.ng, ?_⟩
    repeat' walk_at "d1"
    refine d2_ix (.inl rfl) rfl ?_
    repeat' walk_at "d1"
    refine ⟨d, rfl, h1, ?_⟩
    repeat' walk_at "d1"
    refine d2_ix (.inl rfl) rfl ?_
    repeat' walk_at "d1"
    exact ⟨d2, rfl, h2, .inl q1⟩
  · have hD : C37 ∈ ([C0, C1, C2, C3, C4, C5, C6, C7, C8, C9, C10, C11, C12, C13, C14, C15, C16, C17, C18, C19, C20, C21, C22, C23, C24, C25, C26, C27, C28, C29, C30, C31, C32, C33, C34, C35, C36, C37] : List Addr) := by simp only [List.mem_cons, true_or, or_true]
    repeat' walk_at "d1"
    refine ds_raiseK2 ord_rev E_NotRight.t.o E_NotRight.no E_NotRight.ng ?_
    repeat' walk_at "d1"
    refine ⟨true, hX _ hD, fun _ a dd => ?_, fun z => by cases z⟩
    repeat' first
      | walk_at "d1"
      | with_reducible refine de_gZ ?_
    refine d2_ix (.inl rfl) rfl ?_
    repeat' walk_at "d1"
    refine ⟨[("lines", d2), ("road", d)], 37, 37, rfl, rfl, ?_⟩
    repeat' first
      | walk_at "d1"
      | with_reducible refine de_gZ ?_
      | (refine d2_inB [2, 3, 4] (b := true) (by decide) ?_)
    refine ⟨"road", "lines", d, d2, 3, rfl, rfl, rfl, E_NotRight.no, E_NotRight.ng, ?_⟩
    repeat' walk_at "d1"
    refine d2_ix (.inl rfl) rfl ?_
    repeat' walk_at "d1"
    refine ⟨d, rfl, h1, ?_⟩
    repeat' walk_at "d1"
    refine d2_ix (.inl rfl) rfl ?_
    repeat' walk_at "d1"
    exact ⟨d2, rfl, h2, .inl q1⟩
  · have hD : C28 ∈ ([C0, C1, C2, C3, C4, C5, C6, C7, C8, C9, C10, C11, C12, C13, C14, C15, C16, C17, C18, C19, C20, C21, C22, C23, C24, C25, C26, C27, C28, C29, C30, C31, C32, C33, C34, C35, C36, C37] : List Addr) := by simp only [List.mem_cons, true_or, or_true]
    repeat' walk_at "d1"
    refine ds_raiseK1 ord_app E_Crossed.t.o E_Crossed.no ?_
    repeat' walk_at "d1"
    refine ⟨true, hX _ hD, fun _ a dd => ?_, fun z => by cases z⟩
    repeat' first
      | walk_at "d1"
      | with_reducible refine de_gZ ?_
    refine d2_ix (.inl rfl) rfl ?_
    repeat' walk_at "d1"
    refine ⟨[("cross", d)], 28, 28, rfl, rfl, ?_⟩
    repeat' first
      | walk_at "d1"
      | with_reducible refine de_gZ ?_
      | (refine d2_inB [2, 3, 4] (b := false) (by decide) ?_)
    refine ⟨"cross", d, 28, rfl, rfl, rfl, E_Crossed.no, ?_⟩
    repeat' walk_at "d1"
    exact ⟨d, rfl, h1, .inl q1⟩
end
end K00
namespace K00
open PySem PySem.Spec PyProof.Rows L2 DL
local macro_rules | `(tactic| walk_at "hyp") => `(tactic| (first
  | (simp only [Bool.not_eq_true', Bool.not_eq_false', decide_eq_true_eq, decide_eq_false_iff_not, Bool.or_eq_true, Bool.and_eq_true, Bool.or_eq_false_iff, Bool.not_true, Bool.not_false, Bool.and_eq_false_iff] at *)
  | skip))
local macro_rules | `(tactic| walk_at "d1") => `(tactic| first
  | with_reducible refine ds_seq ?_
  | with_reducible refine ds_if ?_
  | with_reducible refine ds_ret ?_
  | with_reducible refine ds_set ?_
  | with_reducible refine ds_drop ?_
  | with_reducible refine ds_par ?_
  | with_reducible refine ds_par3 ?_
  | with_reducible refine ds_next ?_
  | with_reducible refine de_var rfl ?_
  | with_reducible refine de_int ?_
  | with_reducible refine de_str ?_
  | with_reducible refine de_bl ?_
  | with_reducible refine de_non ?_
  | with_reducible refine de_ty ?_
  | with_reducible refine de_ref ?_
  | with_reducible refine de_op ?_
  | with_reducible refine de_chain ?_
  | with_reducible refine de_un ?_
  | with_reducible refine de_dnew ?_
  | with_reducible refine de_disp1 ?_
  | with_reducible refine de_cb ?_
  | with_reducible refine de_bm ?_
  | with_reducible refine de_sl ?_
  | with_reducible refine de_tup ?_
  | with_reducible refine de_lst ?_
  | with_reducible refine de_fstr ?_
  | with_reducible refine de_fmtS ?_
  | with_reducible refine dj_cons ?_
  | with_reducible refine dj_nil ?_
  | with_reducible refine do_none ?_
  | with_reducible refine do_some ?_
  | with_reducible refine de_g0 (dds := []) (fun _ => .nil) ?_
  | with_reducible refine de_g (dds := []) (fun _ => .nil) ?_
  | with_reducible refine de_lc ?_
  | with_reducible refine di_str ?_
  | with_reducible refine di_tup ?_
  | with_reducible refine de_notV ?_
  | with_reducible refine de_andV ?_
  | with_reducible refine de_orV ?_
  | with_reducible refine de_if ?_
  | with_reducible refine dt_test ?_
  | with_reducible refine dt_B ?_
  | with_reducible refine dt_and ?_
  | with_reducible refine dt_or ?_
  | with_reducible refine dt_not ?_
  | with_reducible refine dt_yes ?_
  | with_reducible refine da_cons ?_
  | with_reducible refine da_nil ?_
  | with_reducible refine d2_leI ?_
  | with_reducible refine d2_ltI ?_
  | with_reducible refine d2_geI ?_
  | with_reducible refine d2_gtI ?_
  | with_reducible refine d2_addI ?_
  | with_reducible refine d2_sub ?_
  | ((with_reducible refine' d2_leS1 (sign1_cps _) ?hs1 ?_); (case hs1 => first | exact sg_a | exact sg_z | exact sg_sp | exact sg_ti))
  | ((with_reducible refine' d2_leS1 ?hs1 (sign1_cps _) ?_); (case hs1 => first | exact sg_a | exact sg_z | exact sg_sp | exact sg_ti))
  | with_reducible refine dr_int ?_
  | with_reducible refine dr_abs ?_
  | with_reducible refine dg_sub ?_
  | ((with_reducible refine' d2_ix ?hsq ?hix ?_); (case hsq => assumption); (case hix => rfl))
  | ((with_reducible refine' d2_mod ?hmod ?_); (case hmod => first | decide | omega))
  | ((with_reducible refine' d2_mul ?hmul ?_); (case hmul => exact mul_ok (by omega) (by omega)))
  | ((with_reducible refine' d2_div ?hdiv ?_); (case hdiv => exact div_ok (by first | decide | omega) (by omega)))
  | ((with_reducible refine' d2_pow ?hpow ?_); (case hpow => exact pow_ok (by decide) (by decide) (by omega)))
  | with_reducible refine d2_notI ?_
  | with_reducible refine d2_notSt ?_
  | with_reducible refine d2_notNn ?_
  | with_reducible refine d2_notT ?_
  | with_reducible refine d2_isI ?_
  | with_reducible refine d2_isNn ?_
  | with_reducible refine d2_isT ?_
  | with_reducible refine d2_neI ?_
  | with_reducible refine d2_eqI ?_
  | with_reducible refine d2_eqS ?_
  | with_reducible refine d2_neS ?_
  | with_reducible refine dr_isiK (by assumption) (by decide) (by first | assumption | exact isTyD_str _ | exact isTyD_tup _ | rfl) ?_
  | with_reducible refine dr_lenT ?_
  | with_reducible refine dr_lenL ?_
  | with_reducible refine dr_lenR ?_
  | with_reducible refine dr_lenC (by assumption) ?_
  | with_reducible refine ds_to ?_
  | with_reducible refine dg_name (by decide) ?_
  | with_reducible refine dg_tup2 ?_
  | with_reducible refine dg_tup3 ?_
  | with_reducible refine dg_tup4 ?_
  | with_reducible refine dgs_cons ?_
  | with_reducible refine dgs_nil ?_
  | with_reducible refine dr_lenS (by omega) ?_
  | with_reducible refine ⟨⟨by simp only [List.length_cons, List.length_nil], by simp only [List.length_cons, List.length_nil]; omega⟩, ?_⟩
  | with_reducible refine ⟨_, rfl, ?_⟩
  | with_reducible refine ⟨_, _, rfl, ?_⟩
  | with_reducible refine ⟨tyD_str, ?_⟩
  | with_reducible refine ⟨by omega, ?_⟩
  | with_reducible refine ⟨by (simp only [PySem.Str.length_append, len_empty, len_sp, List.length_cons, List.length_nil, List.length_append]; omega), ?_⟩
  | with_reducible refine bothT ?_
  | with_reducible refine bothF ?_
  | with_reducible refine bothNT ?_
  | with_reducible refine bothNF ?_
  | (with_reducible refine both (fun hc => ?_) (fun hc => ?_) <;> (try simp only [Bool.not_eq_true', Bool.not_eq_false', decide_eq_true_eq, decide_eq_false_iff_not] at hc) <;> (try (exfalso; omega)) <;> (try exact absurd rfl hc) <;> (try exact absurd trivial hc)))

local macro_rules | `(tactic| walk_at "sm") => `(tactic| first
  | with_reducible refine di_lst ?_
  | with_reducible refine as_lst ?_
  | ((with_reducible refine' d2_addSm ?hs1 ?hs2 ?hs3 (fun hs => ?_)); (case hs1 => assumption); (case hs2 => assumption); (case hs3 => omega))
  | ((with_reducible refine' d2_addL ?hal ?_); (case hal => (simp; try omega)))
  | with_reducible refine d1_neg ?_)

abbrev s__law_ones_right : Stmt := (topS 54)
theorem sc__law_ones_right : FnScope ["first", "last", "lists", "spot", "turn", "e"] ["first", "last"] (defScope s__law_ones_right) := ⟨rfl, rfl, rfl, by decide +kernel, rfl, by decide +kernel, by decide +kernel⟩
abbrev s__law_twos_right : Stmt := (topS 55)
theorem sc__law_twos_right : FnScope ["first", "last", "turn", "due", "found", "spot", "told"] ["first", "last"] (defScope s__law_twos_right) := ⟨rfl, rfl, rfl, by decide +kernel, rfl, by decide +kernel, by decide +kernel⟩
section
variable {P : Program} {w : World} {K : PySem.W.Frag} {mg : Str → Option Value} {base : Heap}
/-- the classes with one field are the first ones; their fields are free -/
structure Ones (K : PySem.W.Frag) (Cs As : List Addr) : Prop where
  len : As.length = 34
  sub : ∀ (i : Nat) (D : Addr), As[i]? = some D → Cs[i]? = some D
  no : ∀ (i : Nat) (D : Addr) (f : Str), As[i]? = some D → fields1[i]? = some f → PySem.W.findIn K (.ref D) f = some none
structure Twos (K : PySem.W.Frag) (Cs : List Addr) (A B C D : Addr) : Prop where
  sub : ∀ (i : Nat) (E : Addr), ([A, B, C, D] : List Addr)[i]? = some E → Cs[34 + i]? = some E
  no : ∀ (i : Nat) (E : Addr) (f g : Str), ([A, B, C, D] : List Addr)[i]? = some E → fields2[i]? = some (f, g) → PySem.W.findIn K (.ref E) f = some none ∧ PySem.W.findIn K (.ref E) g = some none
theorem ones_get {As : List Addr} (hl : As.length = 34) (d : Dat) {i : Nat} (h : i < 34) : ∃ D f, As[i]? = some D ∧ fields1[i]? = some f ∧ (onesD As d)[i]? = some (.exc D [(f, d)]) := by
  have h1 : i < As.length := by omega
  have h2 : i < fields1.length := h
  refine ⟨As[i], fields1[i], List.getElem?_eq_getElem h1, List.getElem?_eq_getElem h2, ?_⟩
  unfold onesD
  rw [List.getElem?_map, List.getElem?_zip_eq_some (z := (As[i], fields1[i])) |>.mpr ⟨List.getElem?_eq_getElem h1, List.getElem?_eq_getElem h2⟩]
  rfl
theorem ones_len {As : List Addr} (hl : As.length = 34) (d : Dat) : (onesD As d).length = 34 := by
  unfold onesD
  rw [List.length_map, List.length_zip, hl]
  rfl
theorem atI_at {α : Type} {l : List α} {i : Nat} {a : α} (h : l[i]? = some a) : atI l (0 + (i : Int)) = some a := by
  obtain ⟨h1, h2⟩ := List.getElem?_eq_some_iff.mp h
  rw [Int.zero_add, atI_nat h1, h2]
def pm_both (K : PySem.W.Frag) (C : Addr) : Pm := fun ds ms P X => ∃ (d d2 : Dat), ds = [d, d2] ∧ Th C d ∧ Th C d2 ∧ P (.bl true) ms
def Sl6 (a b c : Dat) (ms : Ms) : Nat → Ev → Ms → Prop := fun _ e m => m = ms ∧ ∃ x y z : Option Dat, e = [some a, some b, some c, x, y, z]
def Sl6s (a b c s : Dat) (ms : Ms) : Nat → Ev → Ms → Prop := fun _ e m => m = ms ∧ ∃ y z : Option Dat, e = [some a, some b, some c, some s, y, z]
theorem ok_ones_right {f C1 : Addr} {fd : FuncData} {Cs As : List Addr} (F : Fun K "_law_ones_right" "_law_ones_right" s__law_ones_right f fd) (T : Txt K mg)
    {g0 : Addr} {fd0 : FuncData} (D__law_by_place : Df K mg "_law_by_place" g0) (G__law_by_place : FnG P w K mg base (L2N.CX P w) 3 g0 fd0 ["thing"] (spD K (pm_ones K As))) (b__law_by_place : Binds K fd0 ["thing"] [])
    {g1 : Addr} {fd1 : FuncData} (D__law_by_name : Df K mg "_law_by_name" g1) (G__law_by_name : FnG P w K mg base (L2N.CX P w) 3 g1 fd1 ["thing"] (spD K (pm_ones K As))) (b__law_by_name : Binds K fd1 ["thing"] [])
    {g2 : Addr} {fd2 : FuncData} (D__law_is : Df K mg "_law_is" g2) (G__law_is : FnG P w K mg base (L2N.CX P w) 2 g2 fd2 ["e", "spot"] (spD K (pm_is K Cs))) (b__law_is : Binds K fd2 ["e", "spot"] [])
    {g3 : Addr} {fd3 : FuncData} (D__law_kept : Df K mg "_law_kept" g3) (G__law_kept : FnG P w K mg base (L2N.CX P w) 1 g3 fd3 ["e"] (spD K (pm_kept K Cs))) (b__law_kept : Binds K fd3 ["e"] [])
    {g4 : Addr} {fd4 : FuncData} (D__law_same : Df K mg "_law_same" g4) (G__law_same : FnG P w K mg base (L2N.CX P w) 1 g4 fd4 ["kept", "thing"] (spD K (pm_same K C1))) (b__law_same : Binds K fd4 ["kept", "thing"] [])
    (hO : Ones K Cs As) :
    FnG P w K mg base (L2N.CX P w) 4 f fd ["first", "last"] (spD K (pm_both K C1)) := by
  refine fn_dl F sc__law_ones_right (fun ds ms Pd X h => by obtain ⟨_, _, rfl, _⟩ := h; rfl) (fun cdv Ar outer s H E hr hq => ?_)
  have tk := (L2N.takes_of (X := cxOf (L2N.CX P w) P w K mg base ["first", "last", "lists", "spot", "turn", "e"] "_law_ones_right" (defScope s__law_ones_right) f cdv Ar outer s H E) (E := E) rfl rfl rfl rfl)
  refine ⟨_, (pss_cons (ps_set (i := 2) sc__law_ones_right.nd rfl (by first | exact Or.inl rfl | exact Or.inr rfl) (pe_lst (pa_cons (pe_g G__law_by_place (hr.mono (by decide)) hq rfl D__law_by_place.m D__law_by_place.k b__law_by_place .nil (fun σ => L2N.passAt tk σ) (pa_cons (pv 0) pa_nil)) (pa_cons (pe_g G__law_by_name (hr.mono (by decide)) hq rfl D__law_by_name.m D__law_by_name.k b__law_by_name .nil (fun σ => L2N.passAt tk σ) (pa_cons (pv 1) pa_nil)) (pa_cons (pe_g G__law_by_name (hr.mono (by decide)) hq rfl D__law_by_name.m D__law_by_name.k b__law_by_name .nil (fun σ => L2N.passAt tk σ) (pa_cons (pv 0) pa_nil)) (pa_cons (pe_g G__law_by_place (hr.mono (by decide)) hq rfl D__law_by_place.m D__law_by_place.k b__law_by_place .nil (fun σ => L2N.passAt tk σ) (pa_cons (pv 1) pa_nil)) pa_nil)))))) (pss_cons (ps_for (by first | exact PassesOwn.never | assumption | exact passes_of rfl) rfl (pi_range1 rfl T.b_range (pa_cons pe_int pa_nil)) (pg_name (i := 3) sc__law_ones_right.nd rfl (by first | exact Or.inl rfl | exact Or.inr rfl)) (pss_one (ps_for (by first | exact PassesOwn.never | assumption | exact passes_of rfl) rfl (pi_range1 rfl T.b_range (pa_cons pe_int pa_nil)) (pg_name (i := 4) sc__law_ones_right.nd rfl (by first | exact Or.inl rfl | exact Or.inr rfl)) (pss_cons (ps_set (i := 5) sc__law_ones_right.nd rfl (by first | exact Or.inl rfl | exact Or.inr rfl) (pe_ix (ixK (K := K) (r := rIx) rfl ix_seq) (pe_ix (ixK (K := K) (r := rIx) rfl ix_seq) (pv 2) (pv 4) (fun _ _ => rfl)) (pv 3) (fun _ _ => rfl))) (pss_one (ps_if (PW.pt (pw_or (pt_not (pt_val (pe_g G__law_is (hr.mono (by decide)) hq rfl D__law_is.m D__law_is.k b__law_is .nil (fun σ => L2N.passAt tk σ) (pa_cons (pv 5) (pa_cons (pv 3) pa_nil))))) (pw_or1 (pt_not (pt_val (pe_g G__law_same (hr.mono (by decide)) hq rfl D__law_same.m D__law_same.k b__law_same .nil (fun σ => L2N.passAt tk σ) (pa_cons (pe_g G__law_kept (hr.mono (by decide)) hq rfl D__law_kept.m D__law_kept.k b__law_kept .nil (fun σ => L2N.passAt tk σ) (pa_cons (pv 5) pa_nil)) (pa_cons (pe_ix (ixK (K := K) (r := rIx) rfl ix_seq) (pe_lst (pa_cons (pv 0) (pa_cons (pv 1) pa_nil))) (pe_op op_modA (pv 4) pe_int) (fun _ _ => rfl)) pa_nil)))))))) (pss_one (ps_ret pe_bl)) pss_nil)))))) (pss_one (ps_ret pe_bl)))), ?_⟩
  try simp only [cxK]
  rintro _ ms Pd Xd ⟨d, d2, rfl, h1, h2, q⟩ bl mb
  repeat' walk_at "d1"
  refine ⟨d, rfl, ?_⟩
  repeat' walk_at "d1"
  refine ⟨d2, rfl, ?_⟩
  repeat' walk_at "d1"
  refine ⟨d, rfl, ?_⟩
  repeat' walk_at "d1"
  refine ⟨d2, rfl, ?_⟩
  repeat' walk_at "d1"
  refine ds_for (vs := List.range 10) (di_rng1 ?_)
  repeat' walk_at "d1"
  refine ⟨Sl6 d d2 (.lst [.lst (onesD As d), .lst (onesD As d2), .lst (onesD As d), .lst (onesD As d2)]) ms, ⟨rfl, _, _, _, rfl⟩, ?_, ?_⟩
  · rintro i e m hi ⟨rfl, x, y, z, rfl⟩
    have hi' : i < 34 := by simpa using hi
    obtain ⟨D, fl, e1, e2, e3⟩ := ones_get hO.len d hi'
    obtain ⟨D', fl', e1', e2', e3'⟩ := ones_get hO.len d2 hi'
    cases e1.symm.trans e1'
    cases e2.symm.trans e2'
    refine dg_name (by decide) ?_
    refine ds_for (vs := List.range 10) (di_rng1 ?_)
    repeat' walk_at "d1"
    refine ⟨Sl6s d d2 (.lst [.lst (onesD As d), .lst (onesD As d2), .lst (onesD As d), .lst (onesD As d2)]) (.int (0 + (i : Int))) m, ⟨rfl, _, _, rfl⟩, ?_, ?_⟩
    · rintro t e m ht ⟨rfl, y, z, rfl⟩
      refine dg_name (by decide) ?_
      have ht4 : t < 4 := by simpa using ht
      have h4 : t = 0 ∨ t = 1 ∨ t = 2 ∨ t = 3 := by omega
      rcases h4 with h | h | h | h <;> subst h
      · repeat' walk_at "d1"
        refine d2_ix (.inl rfl) rfl ?_
        repeat' walk_at "d1"
        refine d2_ix (.inl rfl) (atI_at e3) ?_
        repeat' walk_at "d1"
        refine ⟨D, [(fl, d)], i, _, rfl, hO.sub _ _ e1, ?_⟩
        repeat' walk_at "d1"
        refine ⟨D, fl, d, i, rfl, hO.sub _ _ e1, e2, hO.no _ _ _ e1 e2, ?_⟩
        repeat' walk_at "d1"
        refine d2_ix (.inl rfl) rfl ?_
        repeat' walk_at "d1"
        refine ⟨d, rfl, h1, ?_⟩
        repeat' walk_at "d1"
        exact ⟨rfl, _, _, rfl⟩
      · repeat' walk_at "d1"
        refine d2_ix (.inl rfl) rfl ?_
        repeat' walk_at "d1"
        refine d2_ix (.inl rfl) (atI_at e3') ?_
        repeat' walk_at "d1"
        refine ⟨D, [(fl, d2)], i, _, rfl, hO.sub _ _ e1, ?_⟩
        repeat' walk_at "d1"
        refine ⟨D, fl, d2, i, rfl, hO.sub _ _ e1, e2, hO.no _ _ _ e1 e2, ?_⟩
        repeat' walk_at "d1"
        refine d2_ix (.inl rfl) rfl ?_
        repeat' walk_at "d1"
        refine ⟨d2, rfl, h2, ?_⟩
        repeat' walk_at "d1"
        exact ⟨rfl, _, _, rfl⟩
      · repeat' walk_at "d1"
        refine d2_ix (.inl rfl) rfl ?_
        repeat' walk_at "d1"
        refine d2_ix (.inl rfl) (atI_at e3) ?_
        repeat' walk_at "d1"
        refine ⟨D, [(fl, d)], i, _, rfl, hO.sub _ _ e1, ?_⟩
        repeat' walk_at "d1"
        refine ⟨D, fl, d, i, rfl, hO.sub _ _ e1, e2, hO.no _ _ _ e1 e2, ?_⟩
        repeat' walk_at "d1"
        refine d2_ix (.inl rfl) rfl ?_
        repeat' walk_at "d1"
        refine ⟨d, rfl, h1, ?_⟩
        repeat' walk_at "d1"
        exact ⟨rfl, _, _, rfl⟩
      · repeat' walk_at "d1"
        refine d2_ix (.inl rfl) rfl ?_
        repeat' walk_at "d1"
        refine d2_ix (.inl rfl) (atI_at e3') ?_
        repeat' walk_at "d1"
        refine ⟨D, [(fl, d2)], i, _, rfl, hO.sub _ _ e1, ?_⟩
        repeat' walk_at "d1"
        refine ⟨D, fl, d2, i, rfl, hO.sub _ _ e1, e2, hO.no _ _ _ e1 e2, ?_⟩
        repeat' walk_at "d1"
        refine d2_ix (.inl rfl) rfl ?_
        repeat' walk_at "d1"
        refine ⟨d2, rfl, h2, ?_⟩
        repeat' walk_at "d1"
        exact ⟨rfl, _, _, rfl⟩
    · rintro e m ⟨rfl, y, z, rfl⟩
      exact ⟨rfl, _, _, _, rfl⟩
  · rintro e m ⟨rfl, x, y, z, rfl⟩
    repeat' walk_at "d1"
    exact .inl q
def Sl7 (a b : Dat) (ms : Ms) : Nat → Ev → Ms → Prop := fun _ e m => m = ms ∧ ∃ x y z u v : Option Dat, e = [some a, some b, x, y, z, u, v]
def Sl7s (a b s t u : Dat) (ms : Ms) : Nat → Ev → Ms → Prop := fun _ e m => m = ms ∧ ∃ y z : Option Dat, e = [some a, some b, some s, some t, some u, y, z]
theorem due_at {α : Type} {x y : α} {t : Nat} (h : t < 8) : atI [x, y] ((0 + (t : Int)) / 4) = some (if t < 4 then x else y) := by
  have : t = 0 ∨ t = 1 ∨ t = 2 ∨ t = 3 ∨ t = 4 ∨ t = 5 ∨ t = 6 ∨ t = 7 := by omega
  rcases this with h | h | h | h | h | h | h | h <;> subst h <;> rfl
theorem ok_twos_right {f C1 A B C D : Addr} {fd : FuncData} {Cs : List Addr} (F : Fun K "_law_twos_right" "_law_twos_right" s__law_twos_right f fd) (T : Txt K mg)
    {g0 : Addr} {fd0 : FuncData} (D__law_twos : Df K mg "_law_twos" g0) (G__law_twos : FnG P w K mg base (L2N.CX P w) 3 g0 fd0 ["one", "other", "way"] (spD K (pm_twos K A B C D))) (b__law_twos : Binds K fd0 ["one", "other", "way"] [])
    {g2 : Addr} {fd2 : FuncData} (D__law_is : Df K mg "_law_is" g2) (G__law_is : FnG P w K mg base (L2N.CX P w) 2 g2 fd2 ["e", "spot"] (spD K (pm_is K Cs))) (b__law_is : Binds K fd2 ["e", "spot"] [])
    {g3 : Addr} {fd3 : FuncData} (D__law_two_kept : Df K mg "_law_two_kept" g3) (G__law_two_kept : FnG P w K mg base (L2N.CX P w) 1 g3 fd3 ["e"] (spD K (pm_two K Cs))) (b__law_two_kept : Binds K fd3 ["e"] [])
    {g4 : Addr} {fd4 : FuncData} (D__law_same : Df K mg "_law_same" g4) (G__law_same : FnG P w K mg base (L2N.CX P w) 1 g4 fd4 ["kept", "thing"] (spD K (pm_same K C1))) (b__law_same : Binds K fd4 ["kept", "thing"] [])
    (hO : Twos K Cs A B C D) :
    FnG P w K mg base (L2N.CX P w) 4 f fd ["first", "last"] (spD K (pm_both K C1)) := by
  refine fn_dl F sc__law_twos_right (fun ds ms Pd X h => by obtain ⟨_, _, rfl, _⟩ := h; rfl) (fun cdv Ar outer s H E hr hq => ?_)
  have tk := (L2N.takes_of (X := cxOf (L2N.CX P w) P w K mg base ["first", "last", "turn", "due", "found", "spot", "told"] "_law_twos_right" (defScope s__law_twos_right) f cdv Ar outer s H E) (E := E) rfl rfl rfl rfl)
  refine ⟨_, (pss_cons (ps_for (by first | exact PassesOwn.never | assumption | exact passes_of rfl) rfl (pi_range1 rfl T.b_range (pa_cons pe_int pa_nil)) (pg_name (i := 2) sc__law_twos_right.nd rfl (by first | exact Or.inl rfl | exact Or.inr rfl)) (pss_cons (ps_set (i := 3) sc__law_twos_right.nd rfl (by first | exact Or.inl rfl | exact Or.inr rfl) (pe_ix (ixK (K := K) (r := rIx) rfl ix_seq) (pe_lst (pa_cons (pe_lst (pa_cons (pv 0) (pa_cons (pv 1) pa_nil))) (pa_cons (pe_lst (pa_cons (pv 1) (pa_cons (pv 0) pa_nil))) pa_nil))) (pe_op op_divA (pv 2) pe_int) (fun _ _ => rfl))) (pss_cons (ps_set (i := 4) sc__law_twos_right.nd rfl (by first | exact Or.inl rfl | exact Or.inr rfl) (pe_g G__law_twos (hr.mono (by decide)) hq rfl D__law_twos.m D__law_twos.k b__law_twos .nil (fun σ => L2N.passAt tk σ) (pa_cons (pe_ix (ixK (K := K) (r := rIx) rfl ix_seq) (pv 3) pe_int (fun _ _ => rfl)) (pa_cons (pe_ix (ixK (K := K) (r := rIx) rfl ix_seq) (pv 3) pe_int (fun _ _ => rfl)) (pa_cons (pe_op op_modA (pe_callTy call_intA (by rfl) T.b_int bt_int (pa_cons (pv 2) pa_nil)) pe_int) pa_nil))))) (pss_one (ps_for (by first | exact PassesOwn.never | assumption | exact passes_of rfl) rfl (pi_range1 rfl T.b_range (pa_cons pe_int pa_nil)) (pg_name (i := 5) sc__law_twos_right.nd rfl (by first | exact Or.inl rfl | exact Or.inr rfl)) (pss_cons (ps_set (i := 6) sc__law_twos_right.nd rfl (by first | exact Or.inl rfl | exact Or.inr rfl) (pe_g G__law_two_kept (hr.mono (by decide)) hq rfl D__law_two_kept.m D__law_two_kept.k b__law_two_kept .nil (fun σ => L2N.passAt tk σ) (pa_cons (pe_ix (ixK (K := K) (r := rIx) rfl ix_seq) (pv 4) (pv 5) (fun _ _ => rfl)) pa_nil))) (pss_cons (ps_if (pt_not (pt_val (pe_g G__law_is (hr.mono (by decide)) hq rfl D__law_is.m D__law_is.k b__law_is .nil (fun σ => L2N.passAt tk σ) (pa_cons (pe_ix (ixK (K := K) (r := rIx) rfl ix_seq) (pv 4) (pv 5) (fun _ _ => rfl)) (pa_cons (pe_op op_addA pe_int (pv 5)) pa_nil))))) (pss_one (ps_ret pe_bl)) pss_nil) (pss_one (ps_if (PW.pt (pw_or (pt_not (pt_val (pe_g G__law_same (hr.mono (by decide)) hq rfl D__law_same.m D__law_same.k b__law_same .nil (fun σ => L2N.passAt tk σ) (pa_cons (pe_ix (ixK (K := K) (r := rIx) rfl ix_seq) (pv 6) pe_int (fun _ _ => rfl)) (pa_cons (pe_ix (ixK (K := K) (r := rIx) rfl ix_seq) (pv 3) pe_int (fun _ _ => rfl)) pa_nil))))) (pw_or1 (pt_not (pt_val (pe_g G__law_same (hr.mono (by decide)) hq rfl D__law_same.m D__law_same.k b__law_same .nil (fun σ => L2N.passAt tk σ) (pa_cons (pe_ix (ixK (K := K) (r := rIx) rfl ix_seq) (pv 6) pe_int (fun _ _ => rfl)) (pa_cons (pe_ix (ixK (K := K) (r := rIx) rfl ix_seq) (pv 3) pe_int (fun _ _ => rfl)) pa_nil)))))))) (pss_one (ps_ret pe_bl)) pss_nil))))))))) (pss_one (ps_ret pe_bl))), ?_⟩
  try simp only [cxK]
  rintro _ ms Pd Xd ⟨d, d2, rfl, h1, h2, q⟩ bl mb
  refine ds_seq (ds_for (vs := List.range 10) (di_rng1 ?_))
  repeat' walk_at "d1"
  refine ⟨Sl7 d d2 ms, ⟨rfl, _, _, _, _, _, rfl⟩, ?_, ?_⟩
  · rintro t e m ht ⟨rfl, x, y, z, u, v, rfl⟩
    have ht' : t < 8 := by simpa using ht
    obtain ⟨a, b, ha, hb, hab⟩ : ∃ a b, Th C1 a ∧ Th C1 b ∧ atI [Dat.lst [d, d2], .lst [d2, d]] ((0 + (t : Int)) / 4) = some (.lst [a, b]) := by
      by_cases h : t < 4
      · exact ⟨d, d2, h1, h2, by rw [due_at ht', if_pos h]⟩
      · exact ⟨d2, d, h2, h1, by rw [due_at ht', if_neg h]⟩
    refine dg_name (by decide) ?_
    repeat' walk_at "d1"
    refine d2_ix (.inl rfl) hab ?_
    repeat' walk_at "d1"
    refine d2_ix (.inl rfl) rfl ?_
    repeat' walk_at "d1"
    refine d2_ix (.inl rfl) rfl ?_
    repeat' walk_at "d1"
    refine ⟨a, b, _, rfl, ?_⟩
    repeat' walk_at "d1"
    refine ds_for (vs := List.range 10) (di_rng1 ?_)
    repeat' walk_at "d1"
    refine ⟨Sl7s d d2 (.int (0 + (t : Int))) (.lst [a, b]) (.lst (twosD A B C D a b)) m, ⟨rfl, _, _, rfl⟩, ?_, ?_⟩
    · rintro i e m hi ⟨rfl, y, z, rfl⟩
      refine dg_name (by decide) ?_
      have hi4 : i < 4 := by simpa using hi
      have h4 : i = 0 ∨ i = 1 ∨ i = 2 ∨ i = 3 := by omega
      rcases h4 with h | h | h | h <;> subst h
      · have hs : Cs[34 + 0]? = some A := hO.sub 0 A rfl
        have hn := hO.no 0 A "u" "v" rfl rfl
        repeat' walk_at "d1"
        refine d2_ix (.inl rfl) rfl ?_
        repeat' walk_at "d1"
        refine ⟨A, "u", "v", a, b, 0, rfl, hs, rfl, hn.1, hn.2, ?_⟩
        repeat' walk_at "d1"
        refine d2_ix (.inl rfl) rfl ?_
        repeat' walk_at "d1"
        refine ⟨A, [("v", b), ("u", a)], 34 + 0, _, rfl, hs, ?_⟩
        repeat' walk_at "d1"
        refine d2_ix (.inl rfl) rfl ?_
        repeat' walk_at "d1"
        refine d2_ix (.inl rfl) rfl ?_
        repeat' walk_at "d1"
        refine ⟨a, rfl, ha, ?_⟩
        repeat' walk_at "d1"
        refine d2_ix (.inl rfl) rfl ?_
        repeat' walk_at "d1"
        refine d2_ix (.inl rfl) rfl ?_
        repeat' walk_at "d1"
        refine ⟨b, rfl, hb, ?_⟩
        repeat' walk_at "d1"
        exact ⟨rfl, _, _, rfl⟩
      · have hs : Cs[34 + 1]? = some B := hO.sub 1 B rfl
        have hn := hO.no 1 B "house" "text" rfl rfl
        repeat' walk_at "d1"
        refine d2_ix (.inl rfl) rfl ?_
        repeat' walk_at "d1"
        refine ⟨B, "house", "text", a, b, 1, rfl, hs, rfl, hn.1, hn.2, ?_⟩
        repeat' walk_at "d1"
        refine d2_ix (.inl rfl) rfl ?_
        repeat' walk_at "d1"
        refine ⟨B, [("text", b), ("house", a)], 34 + 1, _, rfl, hs, ?_⟩
        repeat' walk_at "d1"
        refine d2_ix (.inl rfl) rfl ?_
        repeat' walk_at "d1"
        refine d2_ix (.inl rfl) rfl ?_
        repeat' walk_at "d1"
        refine ⟨a, rfl, ha, ?_⟩
        repeat' walk_at "d1"
        refine d2_ix (.inl rfl) rfl ?_
        repeat' walk_at "d1"
        refine d2_ix (.inl rfl) rfl ?_
        repeat' walk_at "d1"
        refine ⟨b, rfl, hb, ?_⟩
        repeat' walk_at "d1"
        exact ⟨rfl, _, _, rfl⟩
      · have hs : Cs[34 + 2]? = some C := hO.sub 2 C rfl
        have hn := hO.no 2 C "u" "v" rfl rfl
        repeat' walk_at "d1"
        refine d2_ix (.inl rfl) rfl ?_
        repeat' walk_at "d1"
        refine ⟨C, "u", "v", a, b, 2, rfl, hs, rfl, hn.1, hn.2, ?_⟩
        repeat' walk_at "d1"
        refine d2_ix (.inl rfl) rfl ?_
        repeat' walk_at "d1"
        refine ⟨C, [("v", b), ("u", a)], 34 + 2, _, rfl, hs, ?_⟩
        repeat' walk_at "d1"
        refine d2_ix (.inl rfl) rfl ?_
        repeat' walk_at "d1"
        refine d2_ix (.inl rfl) rfl ?_
        repeat' walk_at "d1"
        refine ⟨a, rfl, ha, ?_⟩
        repeat' walk_at "d1"
        refine d2_ix (.inl rfl) rfl ?_
        repeat' walk_at "d1"
        refine d2_ix (.inl rfl) rfl ?_
        repeat' walk_at "d1"
        refine ⟨b, rfl, hb, ?_⟩
        repeat' walk_at "d1"
        exact ⟨rfl, _, _, rfl⟩
      · have hs : Cs[34 + 3]? = some D := hO.sub 3 D rfl
        have hn := hO.no 3 D "road" "lines" rfl rfl
        repeat' walk_at "d1"
        refine d2_ix (.inl rfl) rfl ?_
        repeat' walk_at "d1"
        refine ⟨D, "road", "lines", a, b, 3, rfl, hs, rfl, hn.1, hn.2, ?_⟩
        repeat' walk_at "d1"
        refine d2_ix (.inl rfl) rfl ?_
        repeat' walk_at "d1"
        refine ⟨D, [("lines", b), ("road", a)], 34 + 3, _, rfl, hs, ?_⟩
        repeat' walk_at "d1"
        refine d2_ix (.inl rfl) rfl ?_
        repeat' walk_at "d1"
        refine d2_ix (.inl rfl) rfl ?_
        repeat' walk_at "d1"
        refine ⟨a, rfl, ha, ?_⟩
        repeat' walk_at "d1"
        refine d2_ix (.inl rfl) rfl ?_
        repeat' walk_at "d1"
        refine d2_ix (.inl rfl) rfl ?_
        repeat' walk_at "d1"
        refine ⟨b, rfl, hb, ?_⟩
        repeat' walk_at "d1"
        exact ⟨rfl, _, _, rfl⟩
    · rintro e m ⟨rfl, y, z, rfl⟩
      exact ⟨rfl, _, _, _, _, _, rfl⟩
  · rintro e m ⟨rfl, x, y, z, u, v, rfl⟩
    repeat' walk_at "d1"
    exact .inl q
end
end K00
namespace K00
open PySem PySem.Spec PyProof.Rows L2 DL
local macro_rules | `(tactic| walk_at "hyp") => `(tactic| (first
  | (simp only [Bool.not_eq_true', Bool.not_eq_false', decide_eq_true_eq, decide_eq_false_iff_not, Bool.or_eq_true, Bool.and_eq_true, Bool.or_eq_false_iff, Bool.not_true, Bool.not_false, Bool.and_eq_false_iff] at *)
  | skip))
local macro_rules | `(tactic| walk_at "d1") => `(tactic| first
  | with_reducible refine ds_seq ?_
  | with_reducible refine ds_if ?_
  | with_reducible refine ds_ret ?_
  | with_reducible refine ds_set ?_
  | with_reducible refine ds_drop ?_
  | with_reducible refine ds_par ?_
  | with_reducible refine ds_par3 ?_
  | with_reducible refine ds_next ?_
  | with_reducible refine de_var rfl ?_
  | with_reducible refine de_int ?_
  | with_reducible refine de_str ?_
  | with_reducible refine de_bl ?_
  | with_reducible refine de_non ?_
  | with_reducible refine de_ty ?_
  | with_reducible refine de_ref ?_
  | with_reducible refine de_op ?_
  | with_reducible refine de_chain ?_
  | with_reducible refine de_un ?_
  | with_reducible refine de_dnew ?_
  | with_reducible refine de_disp1 ?_
  | with_reducible refine de_cb ?_
  | with_reducible refine de_bm ?_
  | with_reducible refine de_sl ?_
  | with_reducible refine de_tup ?_
  | with_reducible refine de_lst ?_
  | with_reducible refine de_fstr ?_
  | with_reducible refine de_fmtS ?_
  | with_reducible refine dj_cons ?_
  | with_reducible refine dj_nil ?_
  | with_reducible refine do_none ?_
  | with_reducible refine do_some ?_
  | with_reducible refine de_g0 (dds := []) (fun _ => .nil) ?_
  | with_reducible refine de_g (dds := []) (fun _ => .nil) ?_
  | with_reducible refine de_lc ?_
  | with_reducible refine di_str ?_
  | with_reducible refine di_tup ?_
  | with_reducible refine de_notV ?_
  | with_reducible refine de_andV ?_
  | with_reducible refine de_orV ?_
  | with_reducible refine de_if ?_
  | with_reducible refine dt_test ?_
  | with_reducible refine dt_B ?_
  | with_reducible refine dt_and ?_
  | with_reducible refine dt_or ?_
  | with_reducible refine dt_not ?_
  | with_reducible refine dt_yes ?_
  | with_reducible refine da_cons ?_
  | with_reducible refine da_nil ?_
  | with_reducible refine d2_leI ?_
  | with_reducible refine d2_ltI ?_
  | with_reducible refine d2_geI ?_
  | with_reducible refine d2_gtI ?_
  | with_reducible refine d2_addI ?_
  | with_reducible refine d2_sub ?_
  | ((with_reducible refine' d2_leS1 (sign1_cps _) ?hs1 ?_); (case hs1 => first | exact sg_a | exact sg_z | exact sg_sp | exact sg_ti))
  | ((with_reducible refine' d2_leS1 ?hs1 (sign1_cps _) ?_); (case hs1 => first | exact sg_a | exact sg_z | exact sg_sp | exact sg_ti))
  | with_reducible refine dr_int ?_
  | with_reducible refine dr_abs ?_
  | with_reducible refine dg_sub ?_
  | ((with_reducible refine' d2_ix ?hsq ?hix ?_); (case hsq => assumption); (case hix => rfl))
  | ((with_reducible refine' d2_mod ?hmod ?_); (case hmod => first | decide | omega))
  | ((with_reducible refine' d2_mul ?hmul ?_); (case hmul => exact mul_ok (by omega) (by omega)))
  | ((with_reducible refine' d2_div ?hdiv ?_); (case hdiv => exact div_ok (by first | decide | omega) (by omega)))
  | ((with_reducible refine' d2_pow ?hpow ?_); (case hpow => exact pow_ok (by decide) (by decide) (by omega)))
  | with_reducible refine d2_notI ?_
  | with_reducible refine d2_notSt ?_
  | with_reducible refine d2_notNn ?_
  | with_reducible refine d2_notT ?_
  | with_reducible refine d2_isI ?_
  | with_reducible refine d2_isNn ?_
  | with_reducible refine d2_isT ?_
  | with_reducible refine d2_neI ?_
  | with_reducible refine d2_eqI ?_
  | with_reducible refine d2_eqS ?_
  | with_reducible refine d2_neS ?_
  | with_reducible refine dr_isiK (by assumption) (by decide) (by first | assumption | exact isTyD_str _ | exact isTyD_tup _ | rfl) ?_
  | with_reducible refine dr_lenT ?_
  | with_reducible refine dr_lenL ?_
  | with_reducible refine dr_lenR ?_
  | with_reducible refine dr_lenC (by assumption) ?_
  | with_reducible refine ds_to ?_
  | with_reducible refine dg_name (by decide) ?_
  | with_reducible refine dg_tup2 ?_
  | with_reducible refine dg_tup3 ?_
  | with_reducible refine dg_tup4 ?_
  | with_reducible refine dgs_cons ?_
  | with_reducible refine dgs_nil ?_
  | with_reducible refine dr_lenS (by omega) ?_
  | with_reducible refine ⟨⟨by simp only [List.length_cons, List.length_nil], by simp only [List.length_cons, List.length_nil]; omega⟩, ?_⟩
  | with_reducible refine ⟨_, rfl, ?_⟩
  | with_reducible refine ⟨_, _, rfl, ?_⟩
  | with_reducible refine ⟨tyD_str, ?_⟩
  | with_reducible refine ⟨by omega, ?_⟩
  | with_reducible refine ⟨by (simp only [PySem.Str.length_append, len_empty, len_sp, List.length_cons, List.length_nil, List.length_append]; omega), ?_⟩
  | with_reducible refine bothT ?_
  | with_reducible refine bothF ?_
  | with_reducible refine bothNT ?_
  | with_reducible refine bothNF ?_
  | (with_reducible refine both (fun hc => ?_) (fun hc => ?_) <;> (try simp only [Bool.not_eq_true', Bool.not_eq_false', decide_eq_true_eq, decide_eq_false_iff_not] at hc) <;> (try (exfalso; omega)) <;> (try exact absurd rfl hc) <;> (try exact absurd trivial hc)))

local macro_rules | `(tactic| walk_at "sm") => `(tactic| first
  | with_reducible refine di_lst ?_
  | with_reducible refine as_lst ?_
  | ((with_reducible refine' d2_addSm ?hs1 ?hs2 ?hs3 (fun hs => ?_)); (case hs1 => assumption); (case hs2 => assumption); (case hs3 => omega))
  | ((with_reducible refine' d2_addL ?hal ?_); (case hal => (simp; try omega)))
  | with_reducible refine d1_neg ?_)

abbrev s__law_grown_right : Stmt := (topS 56)
theorem sc__law_grown_right : FnScope ["box", "first", "grown", "table", "kept", "twos", "due", "k", "e"] ["box"] (defScope s__law_grown_right) := ⟨rfl, rfl, rfl, by decide +kernel, rfl, by decide +kernel, by decide +kernel⟩
abbrev s_law : Stmt := (topS 57)
theorem sc_law : FnScope ["script", "k", "box", "first", "last"] ["script"] (defScope s_law) := ⟨rfl, rfl, rfl, by decide +kernel, rfl, by decide +kernel, by decide +kernel⟩
section
variable {P : Program} {w : World} {K : PySem.W.Frag} {mg : Str → Option Value} {base : Heap}
theorem kept_get {As : List Addr} (hl : As.length = 34) (a b : Dat) {i : Nat} (h : i < 136) :
    ∃ (D : Addr) (f : Str) (j : Nat), As[j]? = some D ∧ fields1[j]? = some f ∧ (onesD As a ++ onesD As a ++ onesD As b ++ onesD As b)[i]? = some (.exc D [(f, if i < 68 then a else b)]) := by
  have la := ones_len hl a
  have lb := ones_len hl b
  by_cases h1 : i < 34
  · obtain ⟨D, f, e1, e2, e3⟩ := ones_get hl a h1
    refine ⟨D, f, i, e1, e2, ?_⟩
    rw [if_pos (by omega), List.getElem?_append_left (by simp [la, lb]; omega), List.getElem?_append_left (by simp [la]; omega), List.getElem?_append_left (by omega)]
    exact e3
  · by_cases h2 : i < 68
    · obtain ⟨D, f, e1, e2, e3⟩ := ones_get hl a (i := i - 34) (by omega)
      refine ⟨D, f, i - 34, e1, e2, ?_⟩
      rw [if_pos h2, List.getElem?_append_left (by simp [la, lb]; omega), List.getElem?_append_left (by simp [la]; omega), List.getElem?_append_right (by omega), la]
      exact e3
    · by_cases h3 : i < 102
      · obtain ⟨D, f, e1, e2, e3⟩ := ones_get hl b (i := i - 68) (by omega)
        refine ⟨D, f, i - 68, e1, e2, ?_⟩
        rw [if_neg h2, List.getElem?_append_left (by simp [la, lb]; omega), List.getElem?_append_right (by simp [la]; omega)]
        simp only [List.length_append, la]
        exact e3
      · obtain ⟨D, f, e1, e2, e3⟩ := ones_get hl b (i := i - 102) (by omega)
        refine ⟨D, f, i - 102, e1, e2, ?_⟩
        rw [if_neg h2, List.getElem?_append_right (by simp [la, lb]; omega)]
        simp only [List.length_append, la, lb]
        exact e3
theorem twos_mem {A B C D : Addr} {d d2 c : Dat} (h : c ∈ twosD A B C D d d2) : ∃ (i : Nat) (E : Addr) (f g : Str), ([A, B, C, D] : List Addr)[i]? = some E ∧ fields2[i]? = some (f, g) ∧ c = .exc E [(g, d2), (f, d)] := by
  simp only [twosD, List.mem_cons, List.not_mem_nil, or_false] at h
  rcases h with h | h | h | h
  · exact ⟨0, _, _, _, rfl, rfl, h⟩
  · exact ⟨1, _, _, _, rfl, rfl, h⟩
  · exact ⟨2, _, _, _, rfl, rfl, h⟩
  · exact ⟨3, _, _, _, rfl, rfl, h⟩
theorem none_kept {α : Type} (l : List α) (f : α → Dat) : (l.filter fun _ => false).map f = [] := by
  rw [List.filter_eq_nil_iff.mpr (by simp)]; rfl
def pm_grown (K : PySem.W.Frag) : Pm := fun ds ms P X => ∃ (k n : Nat) (xs : List Dat), ds = [.cell k] ∧ ms[k]? = some (.lst xs) ∧ BoxOk n xs ∧ n ≤ 1000 ∧ ∀ ms', P (.bl true) ms'
theorem ok_grown {f A B C D : Addr} {fd : FuncData} {Cs As : List Addr} (F : Fun K "_law_grown_right" "_law_grown_right" s__law_grown_right f fd) (T : Txt K mg)
    {g0 : Addr} {fd0 : FuncData} (D__law_take : Df K mg "_law_take" g0) (G__law_take : FnG P w K mg base (L2N.CX P w) 1 g0 fd0 ["box", "many"] (spD K (pm_take K))) (b__law_take : Binds K fd0 ["box", "many"] [])
    {g1 : Addr} {fd1 : FuncData} (D__law_by_place : Df K mg "_law_by_place" g1) (G__law_by_place : FnG P w K mg base (L2N.CX P w) 3 g1 fd1 ["thing"] (spD K (pm_ones K As))) (b__law_by_place : Binds K fd1 ["thing"] [])
    {g2 : Addr} {fd2 : FuncData} (D__law_by_name : Df K mg "_law_by_name" g2) (G__law_by_name : FnG P w K mg base (L2N.CX P w) 3 g2 fd2 ["thing"] (spD K (pm_ones K As))) (b__law_by_name : Binds K fd2 ["thing"] [])
    {g3 : Addr} {fd3 : FuncData} (D__law_twos : Df K mg "_law_twos" g3) (G__law_twos : FnG P w K mg base (L2N.CX P w) 3 g3 fd3 ["one", "other", "way"] (spD K (pm_twos K A B C D))) (b__law_twos : Binds K fd3 ["one", "other", "way"] [])
    {g4 : Addr} {fd4 : FuncData} (D__law_kept : Df K mg "_law_kept" g4) (G__law_kept : FnG P w K mg base (L2N.CX P w) 1 g4 fd4 ["e"] (spD K (pm_kept K Cs))) (b__law_kept : Binds K fd4 ["e"] [])
    {g5 : Addr} {fd5 : FuncData} (D__law_two_kept : Df K mg "_law_two_kept" g5) (G__law_two_kept : FnG P w K mg base (L2N.CX P w) 1 g5 fd5 ["e"] (spD K (pm_two K Cs))) (b__law_two_kept : Binds K fd5 ["e"] [])
    (hO : Ones K Cs As) (hT : Twos K Cs A B C D) :
    FnG P w K mg base (L2N.CX P w) 4 f fd ["box"] (spD K (pm_grown K)) := by
  refine fn_dl F sc__law_grown_right (fun ds ms Pd X h => by obtain ⟨_, _, _, rfl, _⟩ := h; rfl) (fun cdv Ar outer s H E hr hq => ?_)
  have tk := (L2N.takes_of (X := cxOf (L2N.CX P w) P w K mg base ["box", "first", "grown", "table", "kept", "twos", "due", "k", "e"] "_law_grown_right" (defScope s__law_grown_right) f cdv Ar outer s H E) (E := E) rfl rfl rfl rfl)
  refine ⟨_, (pss_cons (ps_set (i := 1) sc__law_grown_right.nd rfl (by first | exact Or.inl rfl | exact Or.inr rfl) (pe_g G__law_take (hr.mono (by decide)) hq rfl D__law_take.m D__law_take.k b__law_take .nil (fun σ => L2N.passAt tk σ) (pa_cons (pv 0) (pa_cons pe_int pa_nil)))) (pss_cons (ps_par (i := 2) (j := 3) rfl sc__law_grown_right.nd rfl rfl (by decide) rfl rfl (pa_cons (pe_lst (pa_cons (pv 1) pa_nil)) (pa_cons (pe_disp (pps_cons pe_str (pv 1) pps_nil) (by rfl) (by rfl) (fun z => by cases z) (by decide)) pa_nil)) (by rfl)) (pss_cons (ps_set (i := 4) sc__law_grown_right.nd rfl (by first | exact Or.inl rfl | exact Or.inr rfl) (pe_op op_addA (pe_op op_addA (pe_op op_addA (pe_g G__law_by_place (hr.mono (by decide)) hq rfl D__law_by_place.m D__law_by_place.k b__law_by_place .nil (fun σ => L2N.passAt tk σ) (pa_cons (pv 2) pa_nil)) (pe_g G__law_by_name (hr.mono (by decide)) hq rfl D__law_by_name.m D__law_by_name.k b__law_by_name .nil (fun σ => L2N.passAt tk σ) (pa_cons (pv 2) pa_nil))) (pe_g G__law_by_place (hr.mono (by decide)) hq rfl D__law_by_place.m D__law_by_place.k b__law_by_place .nil (fun σ => L2N.passAt tk σ) (pa_cons (pv 3) pa_nil))) (pe_g G__law_by_name (hr.mono (by decide)) hq rfl D__law_by_name.m D__law_by_name.k b__law_by_name .nil (fun σ => L2N.passAt tk σ) (pa_cons (pv 3) pa_nil)))) (pss_cons (ps_set (i := 5) sc__law_grown_right.nd rfl (by first | exact Or.inl rfl | exact Or.inr rfl) (pe_op op_addA (pe_op op_addA (pe_g G__law_twos (hr.mono (by decide)) hq rfl D__law_twos.m D__law_twos.k b__law_twos .nil (fun σ => L2N.passAt tk σ) (pa_cons (pv 2) (pa_cons (pv 3) (pa_cons pe_int pa_nil)))) (pe_g G__law_twos (hr.mono (by decide)) hq rfl D__law_twos.m D__law_twos.k b__law_twos .nil (fun σ => L2N.passAt tk σ) (pa_cons (pv 2) (pa_cons (pv 3) (pa_cons pe_int pa_nil))))) (pe_g G__law_twos (hr.mono (by decide)) hq rfl D__law_twos.m D__law_twos.k b__law_twos .nil (fun σ => L2N.passAt tk σ) (pa_cons (pv 2) (pa_cons (pv 3) (pa_cons pe_int pa_nil)))))) (pss_cons (ps_set (i := 5) sc__law_grown_right.nd rfl (by first | exact Or.inl rfl | exact Or.inr rfl) (pe_op op_addA (pv 5) (pe_g G__law_twos (hr.mono (by decide)) hq rfl D__law_twos.m D__law_twos.k b__law_twos .nil (fun σ => L2N.passAt tk σ) (pa_cons (pv 2) (pa_cons (pv 3) (pa_cons pe_int pa_nil)))))) (pss_cons (ps_expr (pe_bmK (K := K) rfl PySem.F.plainAttrs_list PySem.F.slot_list_append PySem.F.type_list_append mtA_append (pv 2) (pa_cons pe_str pa_nil))) (pss_cons (ps_asg pe_int (pg_sub (pv 3) pe_str (set_dict (Nat.lt_of_le_of_lt (Nat.add_le_add_left (by decide : 1 ≤ 64) _) hr.units)))) (pss_cons (ps_set (i := 6) sc__law_grown_right.nd rfl (by first | exact Or.inl rfl | exact Or.inr rfl) (pe_lst (pa_cons (pe_lst (pa_cons (pv 1) (pa_cons pe_str pa_nil))) (pa_cons (pe_disp (pps_cons pe_str (pv 1) (pps_cons pe_str pe_int pps_nil)) (by rfl) (by rfl) (fun z => by cases z) (by decide)) pa_nil)))) (pss_cons (ps_if (pt_cmpR (opK (K := K) (r := rNeB) rfl (op_neB hr.units)) (pe_lc (own := [("k", 7)]) rfl sc__law_grown_right.nd (pi_range1 rfl T.b_range (pa_cons pe_int pa_nil)) (blkOk_by (own := [("k", 7)]) (N := ["box", "first", "grown", "table", "kept", "twos", "due", "k", "e"]) (sc := defScope s__law_grown_right) (by decide +kernel)) (fun _ _ _ _ _ => (pg_name (i := 7) sc__law_grown_right.nd rfl (by first | exact Or.inl rfl | exact Or.inr rfl))) (fun _ _ _ _ _ => pts_one (pt_cmpR (opK (K := K) (r := rNeB) rfl (op_neB hr.units)) (pe_g G__law_kept (hr.mono (by decide)) hq rfl D__law_kept.m D__law_kept.k b__law_kept .nil (fun σ => passN σ) (pa_cons (pe_ix (ixK (K := K) (r := rIx) rfl ix_seq) (pv 4) (pv 7) (fun _ _ => rfl)) pa_nil)) (pe_ix (ixK (K := K) (r := rIx) rfl ix_seq) (pv 6) (pe_op op_divA (pv 7) pe_int) (fun _ _ => rfl)) (nomark _))) (fun _ _ _ _ _ => (pv 7))) (pe_lst pa_nil) (nomark _)) (pss_one (ps_ret pe_bl)) pss_nil) (pss_one (ps_ret (pe_cmpR (opK (K := K) (r := rEqA) rfl (op_eqA hr.units)) (pe_lc (own := [("e", 8)]) rfl sc__law_grown_right.nd (pi_list (pv 5)) (blkOk_by (own := [("e", 8)]) (N := ["box", "first", "grown", "table", "kept", "twos", "due", "k", "e"]) (sc := defScope s__law_grown_right) (by decide +kernel)) (fun _ _ _ _ _ => (pg_name (i := 8) sc__law_grown_right.nd rfl (by first | exact Or.inl rfl | exact Or.inr rfl))) (fun _ _ _ _ _ => pts_one (pt_cmpR (opK (K := K) (r := rNeB) rfl (op_neB hr.units)) (pe_g G__law_two_kept (hr.mono (by decide)) hq rfl D__law_two_kept.m D__law_two_kept.k b__law_two_kept .nil (fun σ => passN σ) (pa_cons (pv 8) pa_nil)) (pv 6) (nomark _))) (fun _ _ _ _ _ => (pv 8))) (pe_lst pa_nil) (nomark _))))))))))))), ?_⟩
  try simp only [cxK]
  rintro _ ms Pd Xd ⟨k, n, xs, rfl, hk, hb, hn, q⟩ bl mb
  repeat' walk_at "d1"
  refine ⟨k, n, 9, xs, rfl, by omega, by omega, hk, hb, by omega, fun r ys r0 r1 b1 => ?_⟩
  generalize ms.set k (.lst ys) = m1
  repeat' first
    | with_reducible refine ds_par (da_cons (de_lstC ?_))
    | with_reducible refine de_disp1C ?_
    | walk_at "d1"
  have hg : (m1 ++ [MO.lst [.int r]] ++ [MO.dct [(.inr "a", .int r)]])[m1.length]? = some (.lst [.int r]) := by simp
  have ht : (m1 ++ [MO.lst [.int r]] ++ [MO.dct [(.inr "a", .int r)]])[(m1 ++ [MO.lst [.int r]]).length]? = some (.dct [(.inr "a", .int r)]) := by simp
  have hne : m1.length ≠ (m1 ++ [MO.lst [.int r]]).length := by simp
  generalize m1 ++ [MO.lst [.int r]] ++ [MO.dct [(.inr "a", .int r)]] = m2 at hg ht ⊢
  generalize (m1 ++ [MO.lst [.int r]]).length = t at ht hne ⊢
  generalize m1.length = g at hg hne ⊢
  refine ⟨.cell g, rfl, ?_⟩
  repeat' first
    | ((with_reducible refine' d2_addL ?hal ?_); (case hal => (simp only [List.length_append, ones_len hO.len]; omega)))
    | walk_at "d1"
  refine ⟨.cell g, rfl, ?_⟩
  repeat' first
    | ((with_reducible refine' d2_addL ?hal ?_); (case hal => (simp only [List.length_append, ones_len hO.len]; omega)))
    | walk_at "d1"
  refine ⟨.cell t, rfl, ?_⟩
  repeat' first
    | ((with_reducible refine' d2_addL ?hal ?_); (case hal => (simp only [List.length_append, ones_len hO.len]; omega)))
    | walk_at "d1"
  refine ⟨.cell t, rfl, ?_⟩
  repeat' first
    | ((with_reducible refine' d2_addL ?hal ?_); (case hal => (simp only [List.length_append, ones_len hO.len]; omega)))
    | walk_at "d1"
  refine ⟨.cell g, .cell t, _, rfl, ?_⟩
  repeat' first
    | ((with_reducible refine' d2_addL ?hal ?_); (case hal => (simp only [List.length_append, twosD, List.length_cons, List.length_nil]; omega)))
    | walk_at "d1"
  refine ⟨.cell g, .cell t, _, rfl, ?_⟩
  repeat' first
    | ((with_reducible refine' d2_addL ?hal ?_); (case hal => (simp only [List.length_append, twosD, List.length_cons, List.length_nil]; omega)))
    | walk_at "d1"
  refine ⟨.cell g, .cell t, _, rfl, ?_⟩
  repeat' first
    | ((with_reducible refine' d2_addL ?hal ?_); (case hal => (simp only [List.length_append, twosD, List.length_cons, List.length_nil]; omega)))
    | walk_at "d1"
  refine ⟨.cell g, .cell t, _, rfl, ?_⟩
  repeat' first
    | ((with_reducible refine' d2_addL ?hal ?_); (case hal => (simp only [List.length_append, twosD, List.length_cons, List.length_nil]; omega)))
    | walk_at "d1"
  refine ⟨tyD_cell hg, ?_⟩
  repeat' walk_at "d1"
  refine dr_append hg (by simp) ?_
  have lg := ms_lt hg
  have ltt := ms_lt ht
  have hg3 := set_same (m := MO.lst ([.int r] ++ [.str "more"])) lg
  have ht3 : (m2.set g (MO.lst ([.int r] ++ [.str "more"])))[t]? = some (.dct [(.inr "a", .int r)]) := by rw [List.getElem?_set_ne hne]; exact ht
  generalize m2.set g (MO.lst ([.int r] ++ [.str "more"])) = m3 at hg3 ht3 ⊢
  repeat' first
    | with_reducible refine dg_put ?_
    | walk_at "d1"
  refine ⟨"more", _, rfl, ht3, fun h => absurd (Sum.inr.inj (List.mem_singleton.mp h)) (by decide +kernel), by simp, ?_⟩
  have ht4 := set_same (m := MO.dct ([(.inr "a", .int r)] ++ [(.inr "more", .int 1)])) (ms_lt ht3)
  have hg4 : (m3.set t (MO.dct ([(.inr "a", .int r)] ++ [(.inr "more", .int 1)])))[g]? = some (.lst ([.int r] ++ [.str "more"])) := by rw [List.getElem?_set_ne (Ne.symm hne)]; exact hg3
  generalize m3.set t (MO.dct ([(.inr "a", .int r)] ++ [(.inr "more", .int 1)])) = m4 at hg4 ht4 ⊢
  have nd2 : (([(.inr "a", .int r)] ++ [(.inr "more", .int 1)] : List (Key × Dat)).map (·.1)).Nodup := by simp only [List.cons_append, List.nil_append, List.map_cons, List.map_nil]; decide +kernel
  repeat' first
    | with_reducible refine de_disp2 ?_
    | with_reducible refine ⟨(by decide +kernel : (_ : Str) ≠ _), ?_⟩
    | walk_at "d1"
  refine di_rng1 ?_
  repeat' walk_at "d1"
  refine lcw_map (by decide) (fun _ => false) (fun _ => .non) (fun i hi => dg_name (by decide) ?_) ?_
  · have hi' : i < 136 := by simpa using hi
    obtain ⟨D', f', j, e1, e2, e3⟩ := kept_get hO.len (.cell g) (.cell t) hi'
    repeat' walk_at "d1"
    refine d2_ix (.inl rfl) (atI_at e3) ?_
    repeat' walk_at "d1"
    refine ⟨D', f', _, j, rfl, hO.sub _ _ e1, e2, hO.no _ _ _ e1 e2, ?_⟩
    by_cases h : i < 68
    · have hd : ((0 + (i : Int)) / 68) = 0 := by omega
      rw [if_pos h]
      repeat' walk_at "d1"
      rw [hd]
      refine d2_ix (.inl rfl) rfl ?_
      refine d2_neL (n := 1) (by decide) (.inr ⟨g, rfl, hg4⟩) (.inl rfl) (.cons (.int r) (.cons (.str _) .nil)) ?_
      exact ⟨_, rfl, rfl, rfl, fun z => by simp at z⟩
    · have hd : ((0 + (i : Int)) / 68) = 1 := by omega
      rw [if_neg h]
      repeat' walk_at "d1"
      rw [hd]
      refine d2_ix (.inl rfl) rfl ?_
      refine d2_neK (.inr ⟨t, rfl, ht4⟩) (.inl rfl) nd2 rfl (fun p hp => ?_) ?_
      · simp only [List.cons_append, List.nil_append, List.mem_cons, List.not_mem_nil, or_false] at hp
        rcases hp with h | h <;> subst h
        · exact .inl ⟨_, rfl⟩
        · exact .inl ⟨_, rfl⟩
      · exact ⟨_, rfl, rfl, rfl, fun z => by simp at z⟩
  · rw [none_kept]
    repeat' walk_at "d1"
    refine d2_neL (n := 1) (by decide) (.inl rfl) (.inl rfl) .nil ?_
    repeat' walk_at "d1"
    refine di_lst ?_
    repeat' walk_at "d1"
    refine as_lst ?_
    refine lcw_list (by simp [twosD]) (fun _ => false) (fun _ => .non) (fun c hc => dg_name (by decide) ?_) ?_
    · have hc' : c ∈ twosD A B C D (.cell g) (.cell t) := by
        rcases List.mem_append.mp hc with h | h
        · rcases List.mem_append.mp h with h | h
          · rcases List.mem_append.mp h with h | h <;> exact h
          · exact h
        · exact h
      obtain ⟨i, E', f', g', e1, e2, rfl⟩ := twos_mem hc'
      have hn := hT.no _ _ _ _ e1 e2
      repeat' walk_at "d1"
      refine ⟨E', f', g', .cell g, .cell t, i, rfl, hT.sub _ _ e1, e2, hn.1, hn.2, ?_⟩
      repeat' walk_at "d1"
      refine d2_neL (n := 2) (by decide) (.inl rfl) (.inl rfl) (.cons (.lst (.inr ⟨g, rfl, hg4⟩) (.inl rfl) (.cons (.int r) (.cons (.str _) .nil))) (.cons (.dct (.inr ⟨t, rfl, ht4⟩) (.inl rfl) nd2 (.cons (.int r) (.cons (.int 1) .nil))) .nil)) ?_
      exact ⟨_, rfl, rfl, rfl, fun z => by simp at z⟩
    · rw [none_kept]
      repeat' walk_at "d1"
      exact d2_eqNilI (cs := []) rfl (.inl (q _))
def pm_law (K : PySem.W.Frag) : Pm := fun ds ms P X => ∃ (zs : List Int), ds = [.rol (zs.map Dat.int)] ∧ zs.length ≤ 63 ∧ ∀ ms', P (.bl true) ms'
def Sl1 (a : Option Dat) (e : Ev) : Prop := ∃ x y z u, e = [a, x, y, z, u]
theorem ok_law {f C1 : Addr} {fd : FuncData} (F : Fun K "law" "law" s_law f fd) (T : Txt K mg)
    {g0 : Addr} {fd0 : FuncData} (D__law_box : Df K mg "_law_box" g0) (G__law_box : FnG P w K mg base (L2N.CX P w) 1 g0 fd0 ["great"] (spD K (pm_box K))) (b__law_box : Binds K fd0 ["great"] [])
    {g1 : Addr} {fd1 : FuncData} (D__law_cell : Df K mg "_law_cell" g1) (G__law_cell : FnG P w K mg base (L2N.CX P w) 1 g1 fd1 ["script", "k"] (spD K (pm_cell K))) (b__law_cell : Binds K fd1 ["script", "k"] [])
    {g2 : Addr} {fd2 : FuncData} (D__law_thing : Df K mg "_law_thing" g2) (G__law_thing : FnG P w K mg base (L2N.CX P w) 3 g2 fd2 ["box"] (spD K (pm_thing K C1))) (b__law_thing : Binds K fd2 ["box"] [])
    {g3 : Addr} {fd3 : FuncData} (D__law_ones_right : Df K mg "_law_ones_right" g3) (G__law_ones_right : FnG P w K mg base (L2N.CX P w) 4 g3 fd3 ["first", "last"] (spD K (pm_both K C1))) (b__law_ones_right : Binds K fd3 ["first", "last"] [])
    {g4 : Addr} {fd4 : FuncData} (D__law_twos_right : Df K mg "_law_twos_right" g4) (G__law_twos_right : FnG P w K mg base (L2N.CX P w) 4 g4 fd4 ["first", "last"] (spD K (pm_both K C1))) (b__law_twos_right : Binds K fd4 ["first", "last"] [])
    {g5 : Addr} {fd5 : FuncData} (D__law_caught : Df K mg "_law_caught" g5) (G__law_caught : FnG P w K mg base (L2N.CX P w) 4 g5 fd5 ["box", "thing", "more"] (spD K (pm_caught K C1))) (b__law_caught : Binds K fd5 ["box", "thing", "more"] [])
    {g6 : Addr} {fd6 : FuncData} (D__law_grown_right : Df K mg "_law_grown_right" g6) (G__law_grown_right : FnG P w K mg base (L2N.CX P w) 4 g6 fd6 ["box"] (spD K (pm_grown K))) (b__law_grown_right : Binds K fd6 ["box"] []) :
    FnG P w K mg base (L2N.CX P w) 5 f fd ["script"] (spD K (pm_law K)) := by
  refine fn_dl F sc_law (fun ds ms Pd X h => by obtain ⟨_, rfl, _⟩ := h; rfl) (fun cdv Ar outer s H E hr hq => ?_)
  have tk := (L2N.takes_of (X := cxOf (L2N.CX P w) P w K mg base ["script", "k", "box", "first", "last"] "law" (defScope s_law) f cdv Ar outer s H E) (E := E) rfl rfl rfl rfl)
  refine ⟨_, (pss_cons (ps_for (by first | exact PassesOwn.never | assumption | exact passes_of rfl) rfl (pi_range1 rfl T.b_range (pa_cons (pe_callB (call_max2 rfl) (by rfl) T.b_max bt_max (pa_cons pe_int (pa_cons (pe_callB (call_min2 rfl) (by rfl) T.b_min bt_min (pa_cons pe_int (pa_cons (pe_callB (crK (K := K) (r := rLenK) rfl call_len) (by rfl) T.b_len bt_len (pa_cons (pv 0) pa_nil)) pa_nil))) pa_nil))) pa_nil)) (pg_name (i := 1) sc_law.nd rfl (by first | exact Or.inl rfl | exact Or.inr rfl)) (pss_cons (ps_set (i := 2) sc_law.nd rfl (by first | exact Or.inl rfl | exact Or.inr rfl) (pe_g G__law_box (hr.mono (by decide)) hq rfl D__law_box.m D__law_box.k b__law_box .nil (fun σ => L2N.passAt tk σ) (pa_cons (pe_g G__law_cell (hr.mono (by decide)) hq rfl D__law_cell.m D__law_cell.k b__law_cell .nil (fun σ => L2N.passAt tk σ) (pa_cons (pv 0) (pa_cons (pv 1) pa_nil))) pa_nil))) (pss_cons (ps_par (i := 3) (j := 4) rfl sc_law.nd rfl rfl (by decide) rfl rfl (pa_cons (pe_g G__law_thing (hr.mono (by decide)) hq rfl D__law_thing.m D__law_thing.k b__law_thing .nil (fun σ => L2N.passAt tk σ) (pa_cons (pv 2) pa_nil)) (pa_cons (pe_g G__law_thing (hr.mono (by decide)) hq rfl D__law_thing.m D__law_thing.k b__law_thing .nil (fun σ => L2N.passAt tk σ) (pa_cons (pv 2) pa_nil)) pa_nil)) (by rfl)) (pss_cons (ps_if (PW.pt (pw_or (pt_not (pt_val (pe_g G__law_ones_right (hr.mono (by decide)) hq rfl D__law_ones_right.m D__law_ones_right.k b__law_ones_right .nil (fun σ => L2N.passAt tk σ) (pa_cons (pv 3) (pa_cons (pv 4) pa_nil))))) (pw_or1 (pt_not (pt_val (pe_g G__law_twos_right (hr.mono (by decide)) hq rfl D__law_twos_right.m D__law_twos_right.k b__law_twos_right .nil (fun σ => L2N.passAt tk σ) (pa_cons (pv 3) (pa_cons (pv 4) pa_nil)))))))) (pss_one (ps_ret pe_bl)) pss_nil) (pss_one (ps_if (PW.pt (pw_or (pt_not (pt_val (pe_g G__law_caught (hr.mono (by decide)) hq rfl D__law_caught.m D__law_caught.k b__law_caught .nil (fun σ => L2N.passAt tk σ) (pa_cons (pv 2) (pa_cons (pv 4) (pa_cons (pv 3) pa_nil)))))) (pw_or1 (pt_not (pt_val (pe_g G__law_grown_right (hr.mono (by decide)) hq rfl D__law_grown_right.m D__law_grown_right.k b__law_grown_right .nil (fun σ => L2N.passAt tk σ) (pa_cons (pv 2) pa_nil))))))) (pss_one (ps_ret pe_bl)) pss_nil)))))) (pss_one (ps_ret pe_bl))), ?_⟩
  try simp only [cxK]
  rintro _ ms Pd Xd ⟨zs, rfl, hz, q⟩ bl mb
  refine ds_seq (ds_for (vs := List.range 10) (di_rng1 ?_))
  repeat' walk_at "d1"
  refine dr_min ?_
  repeat' walk_at "d1"
  refine dr_max ?_
  rw [List.length_map]
  have hb : (if (if (zs.length : Int) < 5 then (zs.length : Int) else 5) > 3 then (if (zs.length : Int) < 5 then (zs.length : Int) else 5) else 3) ≤ 6 ∧ 0 ≤ (if (if (zs.length : Int) < 5 then (zs.length : Int) else 5) > 3 then (if (zs.length : Int) < 5 then (zs.length : Int) else 5) else 3) := by
    constructor
    · repeat' split
      all_goals omega
    · repeat' split
      all_goals omega
  generalize (if (if (zs.length : Int) < 5 then (zs.length : Int) else 5) > 3 then (if (zs.length : Int) < 5 then (zs.length : Int) else 5) else 3) = n at hb ⊢
  refine da_nil ⟨n, rfl, by omega, by omega, fun i e m => Sl1 (some (.rol (zs.map Dat.int))) e, ⟨none, none, none, none, rfl⟩, ?_, ?_⟩
  · rintro i e m hi ⟨x, y, z, u, rfl⟩
    refine dg_name (by decide) ?_
    repeat' walk_at "d1"
    refine ⟨zs, _, rfl, by omega, by omega, by omega, fun z => ?_⟩
    repeat' walk_at "d1"
    refine ⟨_, rfl, fun xs hx => ?_⟩
    repeat' walk_at "d1"
    have hk : (m ++ [MO.lst xs])[m.length]? = some (.lst xs) := by simp
    generalize m ++ [MO.lst xs] = m1 at hk ⊢
    generalize m.length = k at hk ⊢
    refine ⟨k, 0, xs, rfl, hk, hx, by omega, fun d y1 h1 b1 => ?_⟩
    have hk2 := set_same (m := MO.lst y1) (ms_lt hk)
    generalize m1.set k (MO.lst y1) = m2 at hk2 ⊢
    repeat' walk_at "d1"
    refine ⟨k, 1, y1, rfl, hk2, b1, by omega, fun d2 y2 h2 b2 => ?_⟩
    have hk3 := set_same (m := MO.lst y2) (ms_lt hk2)
    generalize m2.set k (MO.lst y2) = m3 at hk3 ⊢
    repeat' walk_at "d1"
    refine ⟨d, d2, rfl, h1, h2, ?_⟩
    repeat' walk_at "d1"
    refine ⟨d, d2, rfl, h1, h2, ?_⟩
    repeat' walk_at "d1"
    refine ⟨k, 2, y2, d2, d, rfl, hk3, b2, by omega, h2, h1, fun y3 b3 => ?_⟩
    have hk4 := set_same (m := MO.lst y3) (ms_lt hk3)
    generalize m3.set k (MO.lst y3) = m4 at hk4 ⊢
    repeat' walk_at "d1"
    refine ⟨k, 3, y3, rfl, hk4, b3, by omega, fun m5 => ?_⟩
    repeat' walk_at "d1"
    exact ⟨_, _, _, _, rfl⟩
  · rintro e m ⟨x, y, z, u, rfl⟩
    repeat' walk_at "d1"
    exact .inl (q _)
end
end K00
namespace K00
open PySem PySem.Spec PyProof.Rows L2 DL
abbrev s_InvalidLine___init__ : Stmt := (inClass (topS 2) 0)
theorem sc_InvalidLine___init__ : FnScope ["self", "given"] ["self", "given"] (defScope s_InvalidLine___init__) := ⟨rfl, rfl, rfl, by decide +kernel, rfl, by decide +kernel, by decide +kernel⟩
abbrev s_InvalidText___init__ : Stmt := (inClass (topS 3) 0)
theorem sc_InvalidText___init__ : FnScope ["self", "given"] ["self", "given"] (defScope s_InvalidText___init__) := ⟨rfl, rfl, rfl, by decide +kernel, rfl, by decide +kernel, by decide +kernel⟩
abbrev s_InvalidHouses___init__ : Stmt := (inClass (topS 4) 0)
theorem sc_InvalidHouses___init__ : FnScope ["self", "given"] ["self", "given"] (defScope s_InvalidHouses___init__) := ⟨rfl, rfl, rfl, by decide +kernel, rfl, by decide +kernel, by decide +kernel⟩
abbrev s_InvalidRoads___init__ : Stmt := (inClass (topS 5) 0)
theorem sc_InvalidRoads___init__ : FnScope ["self", "given"] ["self", "given"] (defScope s_InvalidRoads___init__) := ⟨rfl, rfl, rfl, by decide +kernel, rfl, by decide +kernel, by decide +kernel⟩
abbrev s_InvalidHouse___init__ : Stmt := (inClass (topS 6) 0)
theorem sc_InvalidHouse___init__ : FnScope ["self", "given"] ["self", "given"] (defScope s_InvalidHouse___init__) := ⟨rfl, rfl, rfl, by decide +kernel, rfl, by decide +kernel, by decide +kernel⟩
abbrev s_InvalidNames___init__ : Stmt := (inClass (topS 7) 0)
theorem sc_InvalidNames___init__ : FnScope ["self", "given"] ["self", "given"] (defScope s_InvalidNames___init__) := ⟨rfl, rfl, rfl, by decide +kernel, rfl, by decide +kernel, by decide +kernel⟩
abbrev s_InvalidScript___init__ : Stmt := (inClass (topS 8) 0)
theorem sc_InvalidScript___init__ : FnScope ["self", "given"] ["self", "given"] (defScope s_InvalidScript___init__) := ⟨rfl, rfl, rfl, by decide +kernel, rfl, by decide +kernel, by decide +kernel⟩
abbrev s_InvalidFounds___init__ : Stmt := (inClass (topS 9) 0)
theorem sc_InvalidFounds___init__ : FnScope ["self", "given"] ["self", "given"] (defScope s_InvalidFounds___init__) := ⟨rfl, rfl, rfl, by decide +kernel, rfl, by decide +kernel, by decide +kernel⟩
abbrev s_InvalidCount___init__ : Stmt := (inClass (topS 10) 0)
theorem sc_InvalidCount___init__ : FnScope ["self", "given"] ["self", "given"] (defScope s_InvalidCount___init__) := ⟨rfl, rfl, rfl, by decide +kernel, rfl, by decide +kernel, by decide +kernel⟩
abbrev s_InvalidCounts___init__ : Stmt := (inClass (topS 11) 0)
theorem sc_InvalidCounts___init__ : FnScope ["self", "given"] ["self", "given"] (defScope s_InvalidCounts___init__) := ⟨rfl, rfl, rfl, by decide +kernel, rfl, by decide +kernel, by decide +kernel⟩
abbrev s_InvalidLater___init__ : Stmt := (inClass (topS 12) 0)
theorem sc_InvalidLater___init__ : FnScope ["self", "given"] ["self", "given"] (defScope s_InvalidLater___init__) := ⟨rfl, rfl, rfl, by decide +kernel, rfl, by decide +kernel, by decide +kernel⟩
abbrev s_InvalidIndex___init__ : Stmt := (inClass (topS 13) 0)
theorem sc_InvalidIndex___init__ : FnScope ["self", "given"] ["self", "given"] (defScope s_InvalidIndex___init__) := ⟨rfl, rfl, rfl, by decide +kernel, rfl, by decide +kernel, by decide +kernel⟩
abbrev s_InvalidReaders___init__ : Stmt := (inClass (topS 14) 0)
theorem sc_InvalidReaders___init__ : FnScope ["self", "given"] ["self", "given"] (defScope s_InvalidReaders___init__) := ⟨rfl, rfl, rfl, by decide +kernel, rfl, by decide +kernel, by decide +kernel⟩
abbrev s_InvalidMap___init__ : Stmt := (inClass (topS 15) 0)
theorem sc_InvalidMap___init__ : FnScope ["self", "given"] ["self", "given"] (defScope s_InvalidMap___init__) := ⟨rfl, rfl, rfl, by decide +kernel, rfl, by decide +kernel, by decide +kernel⟩
abbrev s_InvalidLot___init__ : Stmt := (inClass (topS 16) 0)
theorem sc_InvalidLot___init__ : FnScope ["self", "given"] ["self", "given"] (defScope s_InvalidLot___init__) := ⟨rfl, rfl, rfl, by decide +kernel, rfl, by decide +kernel, by decide +kernel⟩
abbrev s_InvalidSeats___init__ : Stmt := (inClass (topS 17) 0)
theorem sc_InvalidSeats___init__ : FnScope ["self", "given"] ["self", "given"] (defScope s_InvalidSeats___init__) := ⟨rfl, rfl, rfl, by decide +kernel, rfl, by decide +kernel, by decide +kernel⟩
abbrev s_InvalidName___init__ : Stmt := (inClass (topS 18) 0)
theorem sc_InvalidName___init__ : FnScope ["self", "given"] ["self", "given"] (defScope s_InvalidName___init__) := ⟨rfl, rfl, rfl, by decide +kernel, rfl, by decide +kernel, by decide +kernel⟩
abbrev s_InvalidOwns___init__ : Stmt := (inClass (topS 19) 0)
theorem sc_InvalidOwns___init__ : FnScope ["self", "given"] ["self", "given"] (defScope s_InvalidOwns___init__) := ⟨rfl, rfl, rfl, by decide +kernel, rfl, by decide +kernel, by decide +kernel⟩
abbrev s_InvalidLines___init__ : Stmt := (inClass (topS 20) 0)
theorem sc_InvalidLines___init__ : FnScope ["self", "given"] ["self", "given"] (defScope s_InvalidLines___init__) := ⟨rfl, rfl, rfl, by decide +kernel, rfl, by decide +kernel, by decide +kernel⟩
abbrev s_InvalidWriters___init__ : Stmt := (inClass (topS 21) 0)
theorem sc_InvalidWriters___init__ : FnScope ["self", "given"] ["self", "given"] (defScope s_InvalidWriters___init__) := ⟨rfl, rfl, rfl, by decide +kernel, rfl, by decide +kernel, by decide +kernel⟩
abbrev s_InvalidRows___init__ : Stmt := (inClass (topS 22) 0)
theorem sc_InvalidRows___init__ : FnScope ["self", "given"] ["self", "given"] (defScope s_InvalidRows___init__) := ⟨rfl, rfl, rfl, by decide +kernel, rfl, by decide +kernel, by decide +kernel⟩
abbrev s_NotJoined___init__ : Stmt := (inClass (topS 23) 0)
theorem sc_NotJoined___init__ : FnScope ["self", "house"] ["self", "house"] (defScope s_NotJoined___init__) := ⟨rfl, rfl, rfl, by decide +kernel, rfl, by decide +kernel, by decide +kernel⟩
abbrev s_Stopped___init__ : Stmt := (inClass (topS 25) 0)
theorem sc_Stopped___init__ : FnScope ["self", "house"] ["self", "house"] (defScope s_Stopped___init__) := ⟨rfl, rfl, rfl, by decide +kernel, rfl, by decide +kernel, by decide +kernel⟩
abbrev s_Refused___init__ : Stmt := (inClass (topS 28) 0)
theorem sc_Refused___init__ : FnScope ["self", "at"] ["self", "at"] (defScope s_Refused___init__) := ⟨rfl, rfl, rfl, by decide +kernel, rfl, by decide +kernel, by decide +kernel⟩
abbrev s_Ringed___init__ : Stmt := (inClass (topS 30) 0)
theorem sc_Ringed___init__ : FnScope ["self", "names"] ["self", "names"] (defScope s_Ringed___init__) := ⟨rfl, rfl, rfl, by decide +kernel, rfl, by decide +kernel, by decide +kernel⟩
abbrev s_NoRow___init__ : Stmt := (inClass (topS 31) 0)
theorem sc_NoRow___init__ : FnScope ["self", "names"] ["self", "names"] (defScope s_NoRow___init__) := ⟨rfl, rfl, rfl, by decide +kernel, rfl, by decide +kernel, by decide +kernel⟩
abbrev s_NotTwo___init__ : Stmt := (inClass (topS 32) 0)
theorem sc_NotTwo___init__ : FnScope ["self", "many"] ["self", "many"] (defScope s_NotTwo___init__) := ⟨rfl, rfl, rfl, by decide +kernel, rfl, by decide +kernel, by decide +kernel⟩
abbrev s_Nobodys___init__ : Stmt := (inClass (topS 33) 0)
theorem sc_Nobodys___init__ : FnScope ["self", "picture"] ["self", "picture"] (defScope s_Nobodys___init__) := ⟨rfl, rfl, rfl, by decide +kernel, rfl, by decide +kernel, by decide +kernel⟩
abbrev s_Crossed___init__ : Stmt := (inClass (topS 34) 0)
theorem sc_Crossed___init__ : FnScope ["self", "cross"] ["self", "cross"] (defScope s_Crossed___init__) := ⟨rfl, rfl, rfl, by decide +kernel, rfl, by decide +kernel, by decide +kernel⟩
abbrev s_NotWhole___init__ : Stmt := (inClass (topS 35) 0)
theorem sc_NotWhole___init__ : FnScope ["self", "reader"] ["self", "reader"] (defScope s_NotWhole___init__) := ⟨rfl, rfl, rfl, by decide +kernel, rfl, by decide +kernel, by decide +kernel⟩
abbrev s_Fitless___init__ : Stmt := (inClass (topS 36) 0)
theorem sc_Fitless___init__ : FnScope ["self", "picture"] ["self", "picture"] (defScope s_Fitless___init__) := ⟨rfl, rfl, rfl, by decide +kernel, rfl, by decide +kernel, by decide +kernel⟩
abbrev s_Clash___init__ : Stmt := (inClass (topS 37) 0)
theorem sc_Clash___init__ : FnScope ["self", "reader"] ["self", "reader"] (defScope s_Clash___init__) := ⟨rfl, rfl, rfl, by decide +kernel, rfl, by decide +kernel, by decide +kernel⟩
abbrev s_TooMany___init__ : Stmt := (inClass (topS 38) 0)
theorem sc_TooMany___init__ : FnScope ["self", "count"] ["self", "count"] (defScope s_TooMany___init__) := ⟨rfl, rfl, rfl, by decide +kernel, rfl, by decide +kernel, by decide +kernel⟩
abbrev s_NoLetter___init__ : Stmt := (inClass (topS 39) 0)
theorem sc_NoLetter___init__ : FnScope ["self", "k"] ["self", "k"] (defScope s_NoLetter___init__) := ⟨rfl, rfl, rfl, by decide +kernel, rfl, by decide +kernel, by decide +kernel⟩
abbrev s_NotARoad___init__ : Stmt := (inClass (topS 24) 0)
theorem sc_NotARoad___init__ : FnScope ["self", "u", "v"] ["self", "u", "v"] (defScope s_NotARoad___init__) := ⟨rfl, rfl, rfl, by decide +kernel, rfl, by decide +kernel, by decide +kernel⟩
abbrev s_Twice___init__ : Stmt := (inClass (topS 26) 0)
theorem sc_Twice___init__ : FnScope ["self", "house", "text"] ["self", "house", "text"] (defScope s_Twice___init__) := ⟨rfl, rfl, rfl, by decide +kernel, rfl, by decide +kernel, by decide +kernel⟩
abbrev s_NothingUnderWay___init__ : Stmt := (inClass (topS 27) 0)
theorem sc_NothingUnderWay___init__ : FnScope ["self", "u", "v"] ["self", "u", "v"] (defScope s_NothingUnderWay___init__) := ⟨rfl, rfl, rfl, by decide +kernel, rfl, by decide +kernel, by decide +kernel⟩
abbrev s_NotRight___init__ : Stmt := (inClass (topS 29) 0)
theorem sc_NotRight___init__ : FnScope ["self", "road", "lines"] ["self", "road", "lines"] (defScope s_NotRight___init__) := ⟨rfl, rfl, rfl, by decide +kernel, rfl, by decide +kernel, by decide +kernel⟩
section
variable {P : Program} {w : World} {K : PySem.W.Frag} {mg : Str → Option Value} {base : Heap}
/-- what all classes share -/
structure Sh (K : PySem.W.Frag) (mg : Str → Option Value) (L : Addr) : Prop where
  l : LoT K mg "LostError" L
  sp : PySem.W.specialIn K (.builtin "object.__class__") "__get__" = some (some (.builtin "getset_descriptor.__get__"))
  tk : PySem.W.takesIn K (.builtin "object.__class__") = some true
theorem ini_InvalidLine {f L : Addr} {fd : FuncData} (F : Fun K "__init__" "InvalidLine.__init__" s_InvalidLine___init__ f fd) (TL : LoT K mg "LostError" L) : FnOk P w K mg base (L2N.CX P w) 1 f fd ["self", "given"] (spIni1 K "given") := by
  refine okN F sc_InvalidLine___init__ (fun vs H Q E h => by obtain ⟨a, C, v, rfl, _⟩ := h; rfl) (fun cdv Ar outer s H vs Q E hr h => ?_)
  exact ⟨_, pss_cons (ps_expr (pe_linit TL rfl (pa_cons (pv 0) (pa_cons pe_str pa_nil)))) (pss_one (ps_ost (pv 0) (pv 1))), ini1_run h⟩
theorem mk_InvalidLine {h : Heap} {C I N L : Addr} {nm q : Str} {bs : List Value} {sn : List Str} {sub : List Value} {ab : Bool} {col : Option Bool} {dd : Option Addr} {x0 x1 x2 x3 x5 : Option Value} {iod ian : Option Addr} {isl : Array (Option Value)} {ioc ikV idc ipm icd ict : Value}
    (X : K.In h) (G : h.Ns mainGlobals mg) (eA : PySem.W.nsIn K mainGlobals "InvalidLine" = some (some (.ref C))) (eX : K.lookup C = some (excClassObj nm q C N bs (bmL L) true sn sub ab col dd x0 x1 x2 x3 x5 "ValueError.__new__"))
    (eS : PySem.W.findIn K (.ref C) "__setattr__" = some (some (.builtin "object.__setattr__"))) (eK : PySem.W.keepIn K (.ref C) = true) (ega : PySem.W.findIn K (.ref C) "__getattribute__" = some (some (.builtin "BaseException.__getattribute__")))
    (egg : PySem.W.findIn K (.ref C) "__getattr__" = some none) (ecl : PySem.W.findIn K (.ref C) "__class__" = some (some (.builtin "object.__class__"))) (eno : PySem.W.findIn K (.ref C) "given" = some none)
    (ei : PySem.W.findIn K (.ref C) "__init__" = some (some (.ref I))) (eti : PySem.W.typeIn K (.ref I) = some (.type "function"))
    (eli : K.lookup I = some ⟨ioc, iod, .func (PySem.W.fnOf "__init__" "InvalidLine.__init__" (defArgs s_InvalidLine___init__) (defBody s_InvalidLine___init__) (defScope s_InvalidLine___init__) .none ikV idc ipm ian icd ict), isl⟩) (eci : PySem.W.codeIn K icd "InvalidLine.__init__" = true) (eki : PySem.W.keepIn K (.ref I) = true)
    (S : Sh K mg L) : E1 P w K mg L "InvalidLine" "given" C := by
  have F := fun_mk (st := s_InvalidLine___init__) eli eci eki
  have B := eb_mk eX eS eK ega egg ecl S.sp S.tk
  exact ⟨B, I, _, ⟨B.t, PySem.W.mg_of X G eA, eno, ei, eti, F.binds (ps := ["self", "given"]) fun _ _ _ _ _ _ us hl => match us, hl with | [_, _], _ => rfl, kwi1 F fun _ _ _ _ _ _ _ _ => rfl⟩, fun base => ini_InvalidLine F S.l⟩
theorem ini_InvalidText {f L : Addr} {fd : FuncData} (F : Fun K "__init__" "InvalidText.__init__" s_InvalidText___init__ f fd) (TL : LoT K mg "LostError" L) : FnOk P w K mg base (L2N.CX P w) 1 f fd ["self", "given"] (spIni1 K "given") := by
  refine okN F sc_InvalidText___init__ (fun vs H Q E h => by obtain ⟨a, C, v, rfl, _⟩ := h; rfl) (fun cdv Ar outer s H vs Q E hr h => ?_)
  exact ⟨_, pss_cons (ps_expr (pe_linit TL rfl (pa_cons (pv 0) (pa_cons pe_str pa_nil)))) (pss_one (ps_ost (pv 0) (pv 1))), ini1_run h⟩
theorem mk_InvalidText {h : Heap} {C I N L : Addr} {nm q : Str} {bs : List Value} {sn : List Str} {sub : List Value} {ab : Bool} {col : Option Bool} {dd : Option Addr} {x0 x1 x2 x3 x5 : Option Value} {iod ian : Option Addr} {isl : Array (Option Value)} {ioc ikV idc ipm icd ict : Value}
    (X : K.In h) (G : h.Ns mainGlobals mg) (eA : PySem.W.nsIn K mainGlobals "InvalidText" = some (some (.ref C))) (eX : K.lookup C = some (excClassObj nm q C N bs (bmL L) true sn sub ab col dd x0 x1 x2 x3 x5 "ValueError.__new__"))
    (eS : PySem.W.findIn K (.ref C) "__setattr__" = some (some (.builtin "object.__setattr__"))) (eK : PySem.W.keepIn K (.ref C) = true) (ega : PySem.W.findIn K (.ref C) "__getattribute__" = some (some (.builtin "BaseException.__getattribute__")))
    (egg : PySem.W.findIn K (.ref C) "__getattr__" = some none) (ecl : PySem.W.findIn K (.ref C) "__class__" = some (some (.builtin "object.__class__"))) (eno : PySem.W.findIn K (.ref C) "given" = some none)
    (ei : PySem.W.findIn K (.ref C) "__init__" = some (some (.ref I))) (eti : PySem.W.typeIn K (.ref I) = some (.type "function"))
    (eli : K.lookup I = some ⟨ioc, iod, .func (PySem.W.fnOf "__init__" "InvalidText.__init__" (defArgs s_InvalidText___init__) (defBody s_InvalidText___init__) (defScope s_InvalidText___init__) .none ikV idc ipm ian icd ict), isl⟩) (eci : PySem.W.codeIn K icd "InvalidText.__init__" = true) (eki : PySem.W.keepIn K (.ref I) = true)
    (S : Sh K mg L) : E1 P w K mg L "InvalidText" "given" C := by
  have F := fun_mk (st := s_InvalidText___init__) eli eci eki
  have B := eb_mk eX eS eK ega egg ecl S.sp S.tk
  exact ⟨B, I, _, ⟨B.t, PySem.W.mg_of X G eA, eno, ei, eti, F.binds (ps := ["self", "given"]) fun _ _ _ _ _ _ us hl => match us, hl with | [_, _], _ => rfl, kwi1 F fun _ _ _ _ _ _ _ _ => rfl⟩, fun base => ini_InvalidText F S.l⟩
theorem ini_InvalidHouses {f L : Addr} {fd : FuncData} (F : Fun K "__init__" "InvalidHouses.__init__" s_InvalidHouses___init__ f fd) (TL : LoT K mg "LostError" L) : FnOk P w K mg base (L2N.CX P w) 1 f fd ["self", "given"] (spIni1 K "given") := by
  refine okN F sc_InvalidHouses___init__ (fun vs H Q E h => by obtain ⟨a, C, v, rfl, _⟩ := h; rfl) (fun cdv Ar outer s H vs Q E hr h => ?_)
  exact ⟨_, pss_cons (ps_expr (pe_linit TL rfl (pa_cons (pv 0) (pa_cons pe_str pa_nil)))) (pss_one (ps_ost (pv 0) (pv 1))), ini1_run h⟩
theorem mk_InvalidHouses {h : Heap} {C I N L : Addr} {nm q : Str} {bs : List Value} {sn : List Str} {sub : List Value} {ab : Bool} {col : Option Bool} {dd : Option Addr} {x0 x1 x2 x3 x5 : Option Value} {iod ian : Option Addr} {isl : Array (Option Value)} {ioc ikV idc ipm icd ict : Value}
    (X : K.In h) (G : h.Ns mainGlobals mg) (eA : PySem.W.nsIn K mainGlobals "InvalidHouses" = some (some (.ref C))) (eX : K.lookup C = some (excClassObj nm q C N bs (bmL L) true sn sub ab col dd x0 x1 x2 x3 x5 "ValueError.__new__"))
    (eS : PySem.W.findIn K (.ref C) "__setattr__" = some (some (.builtin "object.__setattr__"))) (eK : PySem.W.keepIn K (.ref C) = true) (ega : PySem.W.findIn K (.ref C) "__getattribute__" = some (some (.builtin "BaseException.__getattribute__")))
    (egg : PySem.W.findIn K (.ref C) "__getattr__" = some none) (ecl : PySem.W.findIn K (.ref C) "__class__" = some (some (.builtin "object.__class__"))) (eno : PySem.W.findIn K (.ref C) "given" = some none)
    (ei : PySem.W.findIn K (.ref C) "__init__" = some (some (.ref I))) (eti : PySem.W.typeIn K (.ref I) = some (.type "function"))
    (eli : K.lookup I = some ⟨ioc, iod, .func (PySem.W.fnOf "__init__" "InvalidHouses.__init__" (defArgs s_InvalidHouses___init__) (defBody s_InvalidHouses___init__) (defScope s_InvalidHouses___init__) .none ikV idc ipm ian icd ict), isl⟩) (eci : PySem.W.codeIn K icd "InvalidHouses.__init__" = true) (eki : PySem.W.keepIn K (.ref I) = true)
    (S : Sh K mg L) : E1 P w K mg L "InvalidHouses" "given" C := by
  have F := fun_mk (st := s_InvalidHouses___init__) eli eci eki
  have B := eb_mk eX eS eK ega egg ecl S.sp S.tk
  exact ⟨B, I, _, ⟨B.t, PySem.W.mg_of X G eA, eno, ei, eti, F.binds (ps := ["self", "given"]) fun _ _ _ _ _ _ us hl => match us, hl with | [_, _], _ => rfl, kwi1 F fun _ _ _ _ _ _ _ _ => rfl⟩, fun base => ini_InvalidHouses F S.l⟩
theorem ini_InvalidRoads {f L : Addr} {fd : FuncData} (F : Fun K "__init__" "InvalidRoads.__init__" s_InvalidRoads___init__ f fd) (TL : LoT K mg "LostError" L) : FnOk P w K mg base (L2N.CX P w) 1 f fd ["self", "given"] (spIni1 K "given") := by
  refine okN F sc_InvalidRoads___init__ (fun vs H Q E h => by obtain ⟨a, C, v, rfl, _⟩ := h; rfl) (fun cdv Ar outer s H vs Q E hr h => ?_)
  exact ⟨_, pss_cons (ps_expr (pe_linit TL rfl (pa_cons (pv 0) (pa_cons pe_str pa_nil)))) (pss_one (ps_ost (pv 0) (pv 1))), ini1_run h⟩
theorem mk_InvalidRoads {h : Heap} {C I N L : Addr} {nm q : Str} {bs : List Value} {sn : List Str} {sub : List Value} {ab : Bool} {col : Option Bool} {dd : Option Addr} {x0 x1 x2 x3 x5 : Option Value} {iod ian : Option Addr} {isl : Array (Option Value)} {ioc ikV idc ipm icd ict : Value}
    (X : K.In h) (G : h.Ns mainGlobals mg) (eA : PySem.W.nsIn K mainGlobals "InvalidRoads" = some (some (.ref C))) (eX : K.lookup C = some (excClassObj nm q C N bs (bmL L) true sn sub ab col dd x0 x1 x2 x3 x5 "ValueError.__new__"))
    (eS : PySem.W.findIn K (.ref C) "__setattr__" = some (some (.builtin "object.__setattr__"))) (eK : PySem.W.keepIn K (.ref C) = true) (ega : PySem.W.findIn K (.ref C) "__getattribute__" = some (some (.builtin "BaseException.__getattribute__")))
    (egg : PySem.W.findIn K (.ref C) "__getattr__" = some none) (ecl : PySem.W.findIn K (.ref C) "__class__" = some (some (.builtin "object.__class__"))) (eno : PySem.W.findIn K (.ref C) "given" = some none)
    (ei : PySem.W.findIn K (.ref C) "__init__" = some (some (.ref I))) (eti : PySem.W.typeIn K (.ref I) = some (.type "function"))
    (eli : K.lookup I = some ⟨ioc, iod, .func (PySem.W.fnOf "__init__" "InvalidRoads.__init__" (defArgs s_InvalidRoads___init__) (defBody s_InvalidRoads___init__) (defScope s_InvalidRoads___init__) .none ikV idc ipm ian icd ict), isl⟩) (eci : PySem.W.codeIn K icd "InvalidRoads.__init__" = true) (eki : PySem.W.keepIn K (.ref I) = true)
    (S : Sh K mg L) : E1 P w K mg L "InvalidRoads" "given" C := by
  have F := fun_mk (st := s_InvalidRoads___init__) eli eci eki
  have B := eb_mk eX eS eK ega egg ecl S.sp S.tk
  exact ⟨B, I, _, ⟨B.t, PySem.W.mg_of X G eA, eno, ei, eti, F.binds (ps := ["self", "given"]) fun _ _ _ _ _ _ us hl => match us, hl with | [_, _], _ => rfl, kwi1 F fun _ _ _ _ _ _ _ _ => rfl⟩, fun base => ini_InvalidRoads F S.l⟩
theorem ini_InvalidHouse {f L : Addr} {fd : FuncData} (F : Fun K "__init__" "InvalidHouse.__init__" s_InvalidHouse___init__ f fd) (TL : LoT K mg "LostError" L) : FnOk P w K mg base (L2N.CX P w) 1 f fd ["self", "given"] (spIni1 K "given") := by
  refine okN F sc_InvalidHouse___init__ (fun vs H Q E h => by obtain ⟨a, C, v, rfl, _⟩ := h; rfl) (fun cdv Ar outer s H vs Q E hr h => ?_)
  exact ⟨_, pss_cons (ps_expr (pe_linit TL rfl (pa_cons (pv 0) (pa_cons pe_str pa_nil)))) (pss_one (ps_ost (pv 0) (pv 1))), ini1_run h⟩
theorem mk_InvalidHouse {h : Heap} {C I N L : Addr} {nm q : Str} {bs : List Value} {sn : List Str} {sub : List Value} {ab : Bool} {col : Option Bool} {dd : Option Addr} {x0 x1 x2 x3 x5 : Option Value} {iod ian : Option Addr} {isl : Array (Option Value)} {ioc ikV idc ipm icd ict : Value}
    (X : K.In h) (G : h.Ns mainGlobals mg) (eA : PySem.W.nsIn K mainGlobals "InvalidHouse" = some (some (.ref C))) (eX : K.lookup C = some (excClassObj nm q C N bs (bmL L) true sn sub ab col dd x0 x1 x2 x3 x5 "ValueError.__new__"))
    (eS : PySem.W.findIn K (.ref C) "__setattr__" = some (some (.builtin "object.__setattr__"))) (eK : PySem.W.keepIn K (.ref C) = true) (ega : PySem.W.findIn K (.ref C) "__getattribute__" = some (some (.builtin "BaseException.__getattribute__")))
    (egg : PySem.W.findIn K (.ref C) "__getattr__" = some none) (ecl : PySem.W.findIn K (.ref C) "__class__" = some (some (.builtin "object.__class__"))) (eno : PySem.W.findIn K (.ref C) "given" = some none)
    (ei : PySem.W.findIn K (.ref C) "__init__" = some (some (.ref I))) (eti : PySem.W.typeIn K (.ref I) = some (.type "function"))
    (eli : K.lookup I = some ⟨ioc, iod, .func (PySem.W.fnOf "__init__" "InvalidHouse.__init__" (defArgs s_InvalidHouse___init__) (defBody s_InvalidHouse___init__) (defScope s_InvalidHouse___init__) .none ikV idc ipm ian icd ict), isl⟩) (eci : PySem.W.codeIn K icd "InvalidHouse.__init__" = true) (eki : PySem.W.keepIn K (.ref I) = true)
    (S : Sh K mg L) : E1 P w K mg L "InvalidHouse" "given" C := by
  have F := fun_mk (st := s_InvalidHouse___init__) eli eci eki
  have B := eb_mk eX eS eK ega egg ecl S.sp S.tk
  exact ⟨B, I, _, ⟨B.t, PySem.W.mg_of X G eA, eno, ei, eti, F.binds (ps := ["self", "given"]) fun _ _ _ _ _ _ us hl => match us, hl with | [_, _], _ => rfl, kwi1 F fun _ _ _ _ _ _ _ _ => rfl⟩, fun base => ini_InvalidHouse F S.l⟩
theorem ini_InvalidNames {f L : Addr} {fd : FuncData} (F : Fun K "__init__" "InvalidNames.__init__" s_InvalidNames___init__ f fd) (TL : LoT K mg "LostError" L) : FnOk P w K mg base (L2N.CX P w) 1 f fd ["self", "given"] (spIni1 K "given") := by
  refine okN F sc_InvalidNames___init__ (fun vs H Q E h => by obtain ⟨a, C, v, rfl, _⟩ := h; rfl) (fun cdv Ar outer s H vs Q E hr h => ?_)
  exact ⟨_, pss_cons (ps_expr (pe_linit TL rfl (pa_cons (pv 0) (pa_cons pe_str pa_nil)))) (pss_one (ps_ost (pv 0) (pv 1))), ini1_run h⟩
theorem mk_InvalidNames {h : Heap} {C I N L : Addr} {nm q : Str} {bs : List Value} {sn : List Str} {sub : List Value} {ab : Bool} {col : Option Bool} {dd : Option Addr} {x0 x1 x2 x3 x5 : Option Value} {iod ian : Option Addr} {isl : Array (Option Value)} {ioc ikV idc ipm icd ict : Value}
    (X : K.In h) (G : h.Ns mainGlobals mg) (eA : PySem.W.nsIn K mainGlobals "InvalidNames" = some (some (.ref C))) (eX : K.lookup C = some (excClassObj nm q C N bs (bmL L) true sn sub ab col dd x0 x1 x2 x3 x5 "ValueError.__new__"))
    (eS : PySem.W.findIn K (.ref C) "__setattr__" = some (some (.builtin "object.__setattr__"))) (eK : PySem.W.keepIn K (.ref C) = true) (ega : PySem.W.findIn K (.ref C) "__getattribute__" = some (some (.builtin "BaseException.__getattribute__")))
    (egg : PySem.W.findIn K (.ref C) "__getattr__" = some none) (ecl : PySem.W.findIn K (.ref C) "__class__" = some (some (.builtin "object.__class__"))) (eno : PySem.W.findIn K (.ref C) "given" = some none)
    (ei : PySem.W.findIn K (.ref C) "__init__" = some (some (.ref I))) (eti : PySem.W.typeIn K (.ref I) = some (.type "function"))
    (eli : K.lookup I = some ⟨ioc, iod, .func (PySem.W.fnOf "__init__" "InvalidNames.__init__" (defArgs s_InvalidNames___init__) (defBody s_InvalidNames___init__) (defScope s_InvalidNames___init__) .none ikV idc ipm ian icd ict), isl⟩) (eci : PySem.W.codeIn K icd "InvalidNames.__init__" = true) (eki : PySem.W.keepIn K (.ref I) = true)
    (S : Sh K mg L) : E1 P w K mg L "InvalidNames" "given" C := by
  have F := fun_mk (st := s_InvalidNames___init__) eli eci eki
  have B := eb_mk eX eS eK ega egg ecl S.sp S.tk
  exact ⟨B, I, _, ⟨B.t, PySem.W.mg_of X G eA, eno, ei, eti, F.binds (ps := ["self", "given"]) fun _ _ _ _ _ _ us hl => match us, hl with | [_, _], _ => rfl, kwi1 F fun _ _ _ _ _ _ _ _ => rfl⟩, fun base => ini_InvalidNames F S.l⟩
theorem ini_InvalidScript {f L : Addr} {fd : FuncData} (F : Fun K "__init__" "InvalidScript.__init__" s_InvalidScript___init__ f fd) (TL : LoT K mg "LostError" L) : FnOk P w K mg base (L2N.CX P w) 1 f fd ["self", "given"] (spIni1 K "given") := by
  refine okN F sc_InvalidScript___init__ (fun vs H Q E h => by obtain ⟨a, C, v, rfl, _⟩ := h; rfl) (fun cdv Ar outer s H vs Q E hr h => ?_)
  exact ⟨_, pss_cons (ps_expr (pe_linit TL rfl (pa_cons (pv 0) (pa_cons pe_str pa_nil)))) (pss_one (ps_ost (pv 0) (pv 1))), ini1_run h⟩
theorem mk_InvalidScript {h : Heap} {C I N L : Addr} {nm q : Str} {bs : List Value} {sn : List Str} {sub : List Value} {ab : Bool} {col : Option Bool} {dd : Option Addr} {x0 x1 x2 x3 x5 : Option Value} {iod ian : Option Addr} {isl : Array (Option Value)} {ioc ikV idc ipm icd ict : Value}
    (X : K.In h) (G : h.Ns mainGlobals mg) (eA : PySem.W.nsIn K mainGlobals "InvalidScript" = some (some (.ref C))) (eX : K.lookup C = some (excClassObj nm q C N bs (bmL L) true sn sub ab col dd x0 x1 x2 x3 x5 "ValueError.__new__"))
    (eS : PySem.W.findIn K (.ref C) "__setattr__" = some (some (.builtin "object.__setattr__"))) (eK : PySem.W.keepIn K (.ref C) = true) (ega : PySem.W.findIn K (.ref C) "__getattribute__" = some (some (.builtin "BaseException.__getattribute__")))
    (egg : PySem.W.findIn K (.ref C) "__getattr__" = some none) (ecl : PySem.W.findIn K (.ref C) "__class__" = some (some (.builtin "object.__class__"))) (eno : PySem.W.findIn K (.ref C) "given" = some none)
    (ei : PySem.W.findIn K (.ref C) "__init__" = some (some (.ref I))) (eti : PySem.W.typeIn K (.ref I) = some (.type "function"))
    (eli : K.lookup I = some ⟨ioc, iod, .func (PySem.W.fnOf "__init__" "InvalidScript.__init__" (defArgs s_InvalidScript___init__) (defBody s_InvalidScript___init__) (defScope s_InvalidScript___init__) .none ikV idc ipm ian icd ict), isl⟩) (eci : PySem.W.codeIn K icd "InvalidScript.__init__" = true) (eki : PySem.W.keepIn K (.ref I) = true)
    (S : Sh K mg L) : E1 P w K mg L "InvalidScript" "given" C := by
  have F := fun_mk (st := s_InvalidScript___init__) eli eci eki
  have B := eb_mk eX eS eK ega egg ecl S.sp S.tk
  exact ⟨B, I, _, ⟨B.t, PySem.W.mg_of X G eA, eno, ei, eti, F.binds (ps := ["self", "given"]) fun _ _ _ _ _ _ us hl => match us, hl with | [_, _], _ => rfl, kwi1 F fun _ _ _ _ _ _ _ _ => rfl⟩, fun base => ini_InvalidScript F S.l⟩
theorem ini_InvalidFounds {f L : Addr} {fd : FuncData} (F : Fun K "__init__" "InvalidFounds.__init__" s_InvalidFounds___init__ f fd) (TL : LoT K mg "LostError" L) : FnOk P w K mg base (L2N.CX P w) 1 f fd ["self", "given"] (spIni1 K "given") := by
  refine okN F sc_InvalidFounds___init__ (fun vs H Q E h => by obtain ⟨a, C, v, rfl, _⟩ := h; rfl) (fun cdv Ar outer s H vs Q E hr h => ?_)
  exact ⟨_, pss_cons (ps_expr (pe_linit TL rfl (pa_cons (pv 0) (pa_cons pe_str pa_nil)))) (pss_one (ps_ost (pv 0) (pv 1))), ini1_run h⟩
theorem mk_InvalidFounds {h : Heap} {C I N L : Addr} {nm q : Str} {bs : List Value} {sn : List Str} {sub : List Value} {ab : Bool} {col : Option Bool} {dd : Option Addr} {x0 x1 x2 x3 x5 : Option Value} {iod ian : Option Addr} {isl : Array (Option Value)} {ioc ikV idc ipm icd ict : Value}
    (X : K.In h) (G : h.Ns mainGlobals mg) (eA : PySem.W.nsIn K mainGlobals "InvalidFounds" = some (some (.ref C))) (eX : K.lookup C = some (excClassObj nm q C N bs (bmL L) true sn sub ab col dd x0 x1 x2 x3 x5 "ValueError.__new__"))
    (eS : PySem.W.findIn K (.ref C) "__setattr__" = some (some (.builtin "object.__setattr__"))) (eK : PySem.W.keepIn K (.ref C) = true) (ega : PySem.W.findIn K (.ref C) "__getattribute__" = some (some (.builtin "BaseException.__getattribute__")))
    (egg : PySem.W.findIn K (.ref C) "__getattr__" = some none) (ecl : PySem.W.findIn K (.ref C) "__class__" = some (some (.builtin "object.__class__"))) (eno : PySem.W.findIn K (.ref C) "given" = some none)
    (ei : PySem.W.findIn K (.ref C) "__init__" = some (some (.ref I))) (eti : PySem.W.typeIn K (.ref I) = some (.type "function"))
    (eli : K.lookup I = some ⟨ioc, iod, .func (PySem.W.fnOf "__init__" "InvalidFounds.__init__" (defArgs s_InvalidFounds___init__) (defBody s_InvalidFounds___init__) (defScope s_InvalidFounds___init__) .none ikV idc ipm ian icd ict), isl⟩) (eci : PySem.W.codeIn K icd "InvalidFounds.__init__" = true) (eki : PySem.W.keepIn K (.ref I) = true)
    (S : Sh K mg L) : E1 P w K mg L "InvalidFounds" "given" C := by
  have F := fun_mk (st := s_InvalidFounds___init__) eli eci eki
  have B := eb_mk eX eS eK ega egg ecl S.sp S.tk
  exact ⟨B, I, _, ⟨B.t, PySem.W.mg_of X G eA, eno, ei, eti, F.binds (ps := ["self", "given"]) fun _ _ _ _ _ _ us hl => match us, hl with | [_, _], _ => rfl, kwi1 F fun _ _ _ _ _ _ _ _ => rfl⟩, fun base => ini_InvalidFounds F S.l⟩
theorem ini_InvalidCount {f L : Addr} {fd : FuncData} (F : Fun K "__init__" "InvalidCount.__init__" s_InvalidCount___init__ f fd) (TL : LoT K mg "LostError" L) : FnOk P w K mg base (L2N.CX P w) 1 f fd ["self", "given"] (spIni1 K "given") := by
  refine okN F sc_InvalidCount___init__ (fun vs H Q E h => by obtain ⟨a, C, v, rfl, _⟩ := h; rfl) (fun cdv Ar outer s H vs Q E hr h => ?_)
  exact ⟨_, pss_cons (ps_expr (pe_linit TL rfl (pa_cons (pv 0) (pa_cons pe_str pa_nil)))) (pss_one (ps_ost (pv 0) (pv 1))), ini1_run h⟩
theorem mk_InvalidCount {h : Heap} {C I N L : Addr} {nm q : Str} {bs : List Value} {sn : List Str} {sub : List Value} {ab : Bool} {col : Option Bool} {dd : Option Addr} {x0 x1 x2 x3 x5 : Option Value} {iod ian : Option Addr} {isl : Array (Option Value)} {ioc ikV idc ipm icd ict : Value}
    (X : K.In h) (G : h.Ns mainGlobals mg) (eA : PySem.W.nsIn K mainGlobals "InvalidCount" = some (some (.ref C))) (eX : K.lookup C = some (excClassObj nm q C N bs (bmL L) true sn sub ab col dd x0 x1 x2 x3 x5 "ValueError.__new__"))
    (eS : PySem.W.findIn K (.ref C) "__setattr__" = some (some (.builtin "object.__setattr__"))) (eK : PySem.W.keepIn K (.ref C) = true) (ega : PySem.W.findIn K (.ref C) "__getattribute__" = some (some (.builtin "BaseException.__getattribute__")))
    (egg : PySem.W.findIn K (.ref C) "__getattr__" = some none) (ecl : PySem.W.findIn K (.ref C) "__class__" = some (some (.builtin "object.__class__"))) (eno : PySem.W.findIn K (.ref C) "given" = some none)
    (ei : PySem.W.findIn K (.ref C) "__init__" = some (some (.ref I))) (eti : PySem.W.typeIn K (.ref I) = some (.type "function"))
    (eli : K.lookup I = some ⟨ioc, iod, .func (PySem.W.fnOf "__init__" "InvalidCount.__init__" (defArgs s_InvalidCount___init__) (defBody s_InvalidCount___init__) (defScope s_InvalidCount___init__) .none ikV idc ipm ian icd ict), isl⟩) (eci : PySem.W.codeIn K icd "InvalidCount.__init__" = true) (eki : PySem.W.keepIn K (.ref I) = true)
    (S : Sh K mg L) : E1 P w K mg L "InvalidCount" "given" C := by
  have F := fun_mk (st := s_InvalidCount___init__) eli eci eki
  have B := eb_mk eX eS eK ega egg ecl S.sp S.tk
  exact ⟨B, I, _, ⟨B.t, PySem.W.mg_of X G eA, eno, ei, eti, F.binds (ps := ["self", "given"]) fun _ _ _ _ _ _ us hl => match us, hl with | [_, _], _ => rfl, kwi1 F fun _ _ _ _ _ _ _ _ => rfl⟩, fun base => ini_InvalidCount F S.l⟩
theorem ini_InvalidCounts {f L : Addr} {fd : FuncData} (F : Fun K "__init__" "InvalidCounts.__init__" s_InvalidCounts___init__ f fd) (TL : LoT K mg "LostError" L) : FnOk P w K mg base (L2N.CX P w) 1 f fd ["self", "given"] (spIni1 K "given") := by
  refine okN F sc_InvalidCounts___init__ (fun vs H Q E h => by obtain ⟨a, C, v, rfl, _⟩ := h; rfl) (fun cdv Ar outer s H vs Q E hr h => ?_)
  exact ⟨_, pss_cons (ps_expr (pe_linit TL rfl (pa_cons (pv 0) (pa_cons pe_str pa_nil)))) (pss_one (ps_ost (pv 0) (pv 1))), ini1_run h⟩
theorem mk_InvalidCounts {h : Heap} {C I N L : Addr} {nm q : Str} {bs : List Value} {sn : List Str} {sub : List Value} {ab : Bool} {col : Option Bool} {dd : Option Addr} {x0 x1 x2 x3 x5 : Option Value} {iod ian : Option Addr} {isl : Array (Option Value)} {ioc ikV idc ipm icd ict : Value}
    (X : K.In h) (G : h.Ns mainGlobals mg) (eA : PySem.W.nsIn K mainGlobals "InvalidCounts" = some (some (.ref C))) (eX : K.lookup C = some (excClassObj nm q C N bs (bmL L) true sn sub ab col dd x0 x1 x2 x3 x5 "ValueError.__new__"))
    (eS : PySem.W.findIn K (.ref C) "__setattr__" = some (some (.builtin "object.__setattr__"))) (eK : PySem.W.keepIn K (.ref C) = true) (ega : PySem.W.findIn K (.ref C) "__getattribute__" = some (some (.builtin "BaseException.__getattribute__")))
    (egg : PySem.W.findIn K (.ref C) "__getattr__" = some none) (ecl : PySem.W.findIn K (.ref C) "__class__" = some (some (.builtin "object.__class__"))) (eno : PySem.W.findIn K (.ref C) "given" = some none)
    (ei : PySem.W.findIn K (.ref C) "__init__" = some (some (.ref I))) (eti : PySem.W.typeIn K (.ref I) = some (.type "function"))
    (eli : K.lookup I = some ⟨ioc, iod, .func (PySem.W.fnOf "__init__" "InvalidCounts.__init__" (defArgs s_InvalidCounts___init__) (defBody s_InvalidCounts___init__) (defScope s_InvalidCounts___init__) .none ikV idc ipm ian icd ict), isl⟩) (eci : PySem.W.codeIn K icd "InvalidCounts.__init__" = true) (eki : PySem.W.keepIn K (.ref I) = true)
    (S : Sh K mg L) : E1 P w K mg L "InvalidCounts" "given" C := by
  have F := fun_mk (st := s_InvalidCounts___init__) eli eci eki
  have B := eb_mk eX eS eK ega egg ecl S.sp S.tk
  exact ⟨B, I, _, ⟨B.t, PySem.W.mg_of X G eA, eno, ei, eti, F.binds (ps := ["self", "given"]) fun _ _ _ _ _ _ us hl => match us, hl with | [_, _], _ => rfl, kwi1 F fun _ _ _ _ _ _ _ _ => rfl⟩, fun base => ini_InvalidCounts F S.l⟩
theorem ini_InvalidLater {f L : Addr} {fd : FuncData} (F : Fun K "__init__" "InvalidLater.__init__" s_InvalidLater___init__ f fd) (TL : LoT K mg "LostError" L) : FnOk P w K mg base (L2N.CX P w) 1 f fd ["self", "given"] (spIni1 K "given") := by
  refine okN F sc_InvalidLater___init__ (fun vs H Q E h => by obtain ⟨a, C, v, rfl, _⟩ := h; rfl) (fun cdv Ar outer s H vs Q E hr h => ?_)
  exact ⟨_, pss_cons (ps_expr (pe_linit TL rfl (pa_cons (pv 0) (pa_cons pe_str pa_nil)))) (pss_one (ps_ost (pv 0) (pv 1))), ini1_run h⟩
theorem mk_InvalidLater {h : Heap} {C I N L : Addr} {nm q : Str} {bs : List Value} {sn : List Str} {sub : List Value} {ab : Bool} {col : Option Bool} {dd : Option Addr} {x0 x1 x2 x3 x5 : Option Value} {iod ian : Option Addr} {isl : Array (Option Value)} {ioc ikV idc ipm icd ict : Value}
    (X : K.In h) (G : h.Ns mainGlobals mg) (eA : PySem.W.nsIn K mainGlobals "InvalidLater" = some (some (.ref C))) (eX : K.lookup C = some (excClassObj nm q C N bs (bmL L) true sn sub ab col dd x0 x1 x2 x3 x5 "ValueError.__new__"))
    (eS : PySem.W.findIn K (.ref C) "__setattr__" = some (some (.builtin "object.__setattr__"))) (eK : PySem.W.keepIn K (.ref C) = true) (ega : PySem.W.findIn K (.ref C) "__getattribute__" = some (some (.builtin "BaseException.__getattribute__")))
    (egg : PySem.W.findIn K (.ref C) "__getattr__" = some none) (ecl : PySem.W.findIn K (.ref C) "__class__" = some (some (.builtin "object.__class__"))) (eno : PySem.W.findIn K (.ref C) "given" = some none)
    (ei : PySem.W.findIn K (.ref C) "__init__" = some (some (.ref I))) (eti : PySem.W.typeIn K (.ref I) = some (.type "function"))
    (eli : K.lookup I = some ⟨ioc, iod, .func (PySem.W.fnOf "__init__" "InvalidLater.__init__" (defArgs s_InvalidLater___init__) (defBody s_InvalidLater___init__) (defScope s_InvalidLater___init__) .none ikV idc ipm ian icd ict), isl⟩) (eci : PySem.W.codeIn K icd "InvalidLater.__init__" = true) (eki : PySem.W.keepIn K (.ref I) = true)
    (S : Sh K mg L) : E1 P w K mg L "InvalidLater" "given" C := by
  have F := fun_mk (st := s_InvalidLater___init__) eli eci eki
  have B := eb_mk eX eS eK ega egg ecl S.sp S.tk
  exact ⟨B, I, _, ⟨B.t, PySem.W.mg_of X G eA, eno, ei, eti, F.binds (ps := ["self", "given"]) fun _ _ _ _ _ _ us hl => match us, hl with | [_, _], _ => rfl, kwi1 F fun _ _ _ _ _ _ _ _ => rfl⟩, fun base => ini_InvalidLater F S.l⟩
theorem ini_InvalidIndex {f L : Addr} {fd : FuncData} (F : Fun K "__init__" "InvalidIndex.__init__" s_InvalidIndex___init__ f fd) (TL : LoT K mg "LostError" L) : FnOk P w K mg base (L2N.CX P w) 1 f fd ["self", "given"] (spIni1 K "given") := by
  refine okN F sc_InvalidIndex___init__ (fun vs H Q E h => by obtain ⟨a, C, v, rfl, _⟩ := h; rfl) (fun cdv Ar outer s H vs Q E hr h => ?_)
  exact ⟨_, pss_cons (ps_expr (pe_linit TL rfl (pa_cons (pv 0) (pa_cons pe_str pa_nil)))) (pss_one (ps_ost (pv 0) (pv 1))), ini1_run h⟩
theorem mk_InvalidIndex {h : Heap} {C I N L : Addr} {nm q : Str} {bs : List Value} {sn : List Str} {sub : List Value} {ab : Bool} {col : Option Bool} {dd : Option Addr} {x0 x1 x2 x3 x5 : Option Value} {iod ian : Option Addr} {isl : Array (Option Value)} {ioc ikV idc ipm icd ict : Value}
    (X : K.In h) (G : h.Ns mainGlobals mg) (eA : PySem.W.nsIn K mainGlobals "InvalidIndex" = some (some (.ref C))) (eX : K.lookup C = some (excClassObj nm q C N bs (bmL L) true sn sub ab col dd x0 x1 x2 x3 x5 "ValueError.__new__"))
    (eS : PySem.W.findIn K (.ref C) "__setattr__" = some (some (.builtin "object.__setattr__"))) (eK : PySem.W.keepIn K (.ref C) = true) (ega : PySem.W.findIn K (.ref C) "__getattribute__" = some (some (.builtin "BaseException.__getattribute__")))
    (egg : PySem.W.findIn K (.ref C) "__getattr__" = some none) (ecl : PySem.W.findIn K (.ref C) "__class__" = some (some (.builtin "object.__class__"))) (eno : PySem.W.findIn K (.ref C) "given" = some none)
    (ei : PySem.W.findIn K (.ref C) "__init__" = some (some (.ref I))) (eti : PySem.W.typeIn K (.ref I) = some (.type "function"))
    (eli : K.lookup I = some ⟨ioc, iod, .func (PySem.W.fnOf "__init__" "InvalidIndex.__init__" (defArgs s_InvalidIndex___init__) (defBody s_InvalidIndex___init__) (defScope s_InvalidIndex___init__) .none ikV idc ipm ian icd ict), isl⟩) (eci : PySem.W.codeIn K icd "InvalidIndex.__init__" = true) (eki : PySem.W.keepIn K (.ref I) = true)
    (S : Sh K mg L) : E1 P w K mg L "InvalidIndex" "given" C := by
  have F := fun_mk (st := s_InvalidIndex___init__) eli eci eki
  have B := eb_mk eX eS eK ega egg ecl S.sp S.tk
  exact ⟨B, I, _, ⟨B.t, PySem.W.mg_of X G eA, eno, ei, eti, F.binds (ps := ["self", "given"]) fun _ _ _ _ _ _ us hl => match us, hl with | [_, _], _ => rfl, kwi1 F fun _ _ _ _ _ _ _ _ => rfl⟩, fun base => ini_InvalidIndex F S.l⟩
theorem ini_InvalidReaders {f L : Addr} {fd : FuncData} (F : Fun K "__init__" "InvalidReaders.__init__" s_InvalidReaders___init__ f fd) (TL : LoT K mg "LostError" L) : FnOk P w K mg base (L2N.CX P w) 1 f fd ["self", "given"] (spIni1 K "given") := by
  refine okN F sc_InvalidReaders___init__ (fun vs H Q E h => by obtain ⟨a, C, v, rfl, _⟩ := h; rfl) (fun cdv Ar outer s H vs Q E hr h => ?_)
  exact ⟨_, pss_cons (ps_expr (pe_linit TL rfl (pa_cons (pv 0) (pa_cons pe_str pa_nil)))) (pss_one (ps_ost (pv 0) (pv 1))), ini1_run h⟩
theorem mk_InvalidReaders {h : Heap} {C I N L : Addr} {nm q : Str} {bs : List Value} {sn : List Str} {sub : List Value} {ab : Bool} {col : Option Bool} {dd : Option Addr} {x0 x1 x2 x3 x5 : Option Value} {iod ian : Option Addr} {isl : Array (Option Value)} {ioc ikV idc ipm icd ict : Value}
    (X : K.In h) (G : h.Ns mainGlobals mg) (eA : PySem.W.nsIn K mainGlobals "InvalidReaders" = some (some (.ref C))) (eX : K.lookup C = some (excClassObj nm q C N bs (bmL L) true sn sub ab col dd x0 x1 x2 x3 x5 "ValueError.__new__"))
    (eS : PySem.W.findIn K (.ref C) "__setattr__" = some (some (.builtin "object.__setattr__"))) (eK : PySem.W.keepIn K (.ref C) = true) (ega : PySem.W.findIn K (.ref C) "__getattribute__" = some (some (.builtin "BaseException.__getattribute__")))
    (egg : PySem.W.findIn K (.ref C) "__getattr__" = some none) (ecl : PySem.W.findIn K (.ref C) "__class__" = some (some (.builtin "object.__class__"))) (eno : PySem.W.findIn K (.ref C) "given" = some none)
    (ei : PySem.W.findIn K (.ref C) "__init__" = some (some (.ref I))) (eti : PySem.W.typeIn K (.ref I) = some (.type "function"))
    (eli : K.lookup I = some ⟨ioc, iod, .func (PySem.W.fnOf "__init__" "InvalidReaders.__init__" (defArgs s_InvalidReaders___init__) (defBody s_InvalidReaders___init__) (defScope s_InvalidReaders___init__) .none ikV idc ipm ian icd ict), isl⟩) (eci : PySem.W.codeIn K icd "InvalidReaders.__init__" = true) (eki : PySem.W.keepIn K (.ref I) = true)
    (S : Sh K mg L) : E1 P w K mg L "InvalidReaders" "given" C := by
  have F := fun_mk (st := s_InvalidReaders___init__) eli eci eki
  have B := eb_mk eX eS eK ega egg ecl S.sp S.tk
  exact ⟨B, I, _, ⟨B.t, PySem.W.mg_of X G eA, eno, ei, eti, F.binds (ps := ["self", "given"]) fun _ _ _ _ _ _ us hl => match us, hl with | [_, _], _ => rfl, kwi1 F fun _ _ _ _ _ _ _ _ => rfl⟩, fun base => ini_InvalidReaders F S.l⟩
theorem ini_InvalidMap {f L : Addr} {fd : FuncData} (F : Fun K "__init__" "InvalidMap.__init__" s_InvalidMap___init__ f fd) (TL : LoT K mg "LostError" L) : FnOk P w K mg base (L2N.CX P w) 1 f fd ["self", "given"] (spIni1 K "given") := by
  refine okN F sc_InvalidMap___init__ (fun vs H Q E h => by obtain ⟨a, C, v, rfl, _⟩ := h; rfl) (fun cdv Ar outer s H vs Q E hr h => ?_)
  exact ⟨_, pss_cons (ps_expr (pe_linit TL rfl (pa_cons (pv 0) (pa_cons pe_str pa_nil)))) (pss_one (ps_ost (pv 0) (pv 1))), ini1_run h⟩
theorem mk_InvalidMap {h : Heap} {C I N L : Addr} {nm q : Str} {bs : List Value} {sn : List Str} {sub : List Value} {ab : Bool} {col : Option Bool} {dd : Option Addr} {x0 x1 x2 x3 x5 : Option Value} {iod ian : Option Addr} {isl : Array (Option Value)} {ioc ikV idc ipm icd ict : Value}
    (X : K.In h) (G : h.Ns mainGlobals mg) (eA : PySem.W.nsIn K mainGlobals "InvalidMap" = some (some (.ref C))) (eX : K.lookup C = some (excClassObj nm q C N bs (bmL L) true sn sub ab col dd x0 x1 x2 x3 x5 "ValueError.__new__"))
    (eS : PySem.W.findIn K (.ref C) "__setattr__" = some (some (.builtin "object.__setattr__"))) (eK : PySem.W.keepIn K (.ref C) = true) (ega : PySem.W.findIn K (.ref C) "__getattribute__" = some (some (.builtin "BaseException.__getattribute__")))
    (egg : PySem.W.findIn K (.ref C) "__getattr__" = some none) (ecl : PySem.W.findIn K (.ref C) "__class__" = some (some (.builtin "object.__class__"))) (eno : PySem.W.findIn K (.ref C) "given" = some none)
    (ei : PySem.W.findIn K (.ref C) "__init__" = some (some (.ref I))) (eti : PySem.W.typeIn K (.ref I) = some (.type "function"))
    (eli : K.lookup I = some ⟨ioc, iod, .func (PySem.W.fnOf "__init__" "InvalidMap.__init__" (defArgs s_InvalidMap___init__) (defBody s_InvalidMap___init__) (defScope s_InvalidMap___init__) .none ikV idc ipm ian icd ict), isl⟩) (eci : PySem.W.codeIn K icd "InvalidMap.__init__" = true) (eki : PySem.W.keepIn K (.ref I) = true)
    (S : Sh K mg L) : E1 P w K mg L "InvalidMap" "given" C := by
  have F := fun_mk (st := s_InvalidMap___init__) eli eci eki
  have B := eb_mk eX eS eK ega egg ecl S.sp S.tk
  exact ⟨B, I, _, ⟨B.t, PySem.W.mg_of X G eA, eno, ei, eti, F.binds (ps := ["self", "given"]) fun _ _ _ _ _ _ us hl => match us, hl with | [_, _], _ => rfl, kwi1 F fun _ _ _ _ _ _ _ _ => rfl⟩, fun base => ini_InvalidMap F S.l⟩
theorem ini_InvalidLot {f L : Addr} {fd : FuncData} (F : Fun K "__init__" "InvalidLot.__init__" s_InvalidLot___init__ f fd) (TL : LoT K mg "LostError" L) : FnOk P w K mg base (L2N.CX P w) 1 f fd ["self", "given"] (spIni1 K "given") := by
  refine okN F sc_InvalidLot___init__ (fun vs H Q E h => by obtain ⟨a, C, v, rfl, _⟩ := h; rfl) (fun cdv Ar outer s H vs Q E hr h => ?_)
  exact ⟨_, pss_cons (ps_expr (pe_linit TL rfl (pa_cons (pv 0) (pa_cons pe_str pa_nil)))) (pss_one (ps_ost (pv 0) (pv 1))), ini1_run h⟩
theorem mk_InvalidLot {h : Heap} {C I N L : Addr} {nm q : Str} {bs : List Value} {sn : List Str} {sub : List Value} {ab : Bool} {col : Option Bool} {dd : Option Addr} {x0 x1 x2 x3 x5 : Option Value} {iod ian : Option Addr} {isl : Array (Option Value)} {ioc ikV idc ipm icd ict : Value}
    (X : K.In h) (G : h.Ns mainGlobals mg) (eA : PySem.W.nsIn K mainGlobals "InvalidLot" = some (some (.ref C))) (eX : K.lookup C = some (excClassObj nm q C N bs (bmL L) true sn sub ab col dd x0 x1 x2 x3 x5 "ValueError.__new__"))
    (eS : PySem.W.findIn K (.ref C) "__setattr__" = some (some (.builtin "object.__setattr__"))) (eK : PySem.W.keepIn K (.ref C) = true) (ega : PySem.W.findIn K (.ref C) "__getattribute__" = some (some (.builtin "BaseException.__getattribute__")))
    (egg : PySem.W.findIn K (.ref C) "__getattr__" = some none) (ecl : PySem.W.findIn K (.ref C) "__class__" = some (some (.builtin "object.__class__"))) (eno : PySem.W.findIn K (.ref C) "given" = some none)
    (ei : PySem.W.findIn K (.ref C) "__init__" = some (some (.ref I))) (eti : PySem.W.typeIn K (.ref I) = some (.type "function"))
    (eli : K.lookup I = some ⟨ioc, iod, .func (PySem.W.fnOf "__init__" "InvalidLot.__init__" (defArgs s_InvalidLot___init__) (defBody s_InvalidLot___init__) (defScope s_InvalidLot___init__) .none ikV idc ipm ian icd ict), isl⟩) (eci : PySem.W.codeIn K icd "InvalidLot.__init__" = true) (eki : PySem.W.keepIn K (.ref I) = true)
    (S : Sh K mg L) : E1 P w K mg L "InvalidLot" "given" C := by
  have F := fun_mk (st := s_InvalidLot___init__) eli eci eki
  have B := eb_mk eX eS eK ega egg ecl S.sp S.tk
  exact ⟨B, I, _, ⟨B.t, PySem.W.mg_of X G eA, eno, ei, eti, F.binds (ps := ["self", "given"]) fun _ _ _ _ _ _ us hl => match us, hl with | [_, _], _ => rfl, kwi1 F fun _ _ _ _ _ _ _ _ => rfl⟩, fun base => ini_InvalidLot F S.l⟩
theorem ini_InvalidSeats {f L : Addr} {fd : FuncData} (F : Fun K "__init__" "InvalidSeats.__init__" s_InvalidSeats___init__ f fd) (TL : LoT K mg "LostError" L) : FnOk P w K mg base (L2N.CX P w) 1 f fd ["self", "given"] (spIni1 K "given") := by
  refine okN F sc_InvalidSeats___init__ (fun vs H Q E h => by obtain ⟨a, C, v, rfl, _⟩ := h; rfl) (fun cdv Ar outer s H vs Q E hr h => ?_)
  exact ⟨_, pss_cons (ps_expr (pe_linit TL rfl (pa_cons (pv 0) (pa_cons pe_str pa_nil)))) (pss_one (ps_ost (pv 0) (pv 1))), ini1_run h⟩
theorem mk_InvalidSeats {h : Heap} {C I N L : Addr} {nm q : Str} {bs : List Value} {sn : List Str} {sub : List Value} {ab : Bool} {col : Option Bool} {dd : Option Addr} {x0 x1 x2 x3 x5 : Option Value} {iod ian : Option Addr} {isl : Array (Option Value)} {ioc ikV idc ipm icd ict : Value}
    (X : K.In h) (G : h.Ns mainGlobals mg) (eA : PySem.W.nsIn K mainGlobals "InvalidSeats" = some (some (.ref C))) (eX : K.lookup C = some (excClassObj nm q C N bs (bmL L) true sn sub ab col dd x0 x1 x2 x3 x5 "ValueError.__new__"))
    (eS : PySem.W.findIn K (.ref C) "__setattr__" = some (some (.builtin "object.__setattr__"))) (eK : PySem.W.keepIn K (.ref C) = true) (ega : PySem.W.findIn K (.ref C) "__getattribute__" = some (some (.builtin "BaseException.__getattribute__")))
    (egg : PySem.W.findIn K (.ref C) "__getattr__" = some none) (ecl : PySem.W.findIn K (.ref C) "__class__" = some (some (.builtin "object.__class__"))) (eno : PySem.W.findIn K (.ref C) "given" = some none)
    (ei : PySem.W.findIn K (.ref C) "__init__" = some (some (.ref I))) (eti : PySem.W.typeIn K (.ref I) = some (.type "function"))
    (eli : K.lookup I = some ⟨ioc, iod, .func (PySem.W.fnOf "__init__" "InvalidSeats.__init__" (defArgs s_InvalidSeats___init__) (defBody s_InvalidSeats___init__) (defScope s_InvalidSeats___init__) .none ikV idc ipm ian icd ict), isl⟩) (eci : PySem.W.codeIn K icd "InvalidSeats.__init__" = true) (eki : PySem.W.keepIn K (.ref I) = true)
    (S : Sh K mg L) : E1 P w K mg L "InvalidSeats" "given" C := by
  have F := fun_mk (st := s_InvalidSeats___init__) eli eci eki
  have B := eb_mk eX eS eK ega egg ecl S.sp S.tk
  exact ⟨B, I, _, ⟨B.t, PySem.W.mg_of X G eA, eno, ei, eti, F.binds (ps := ["self", "given"]) fun _ _ _ _ _ _ us hl => match us, hl with | [_, _], _ => rfl, kwi1 F fun _ _ _ _ _ _ _ _ => rfl⟩, fun base => ini_InvalidSeats F S.l⟩
theorem ini_InvalidName {f L : Addr} {fd : FuncData} (F : Fun K "__init__" "InvalidName.__init__" s_InvalidName___init__ f fd) (TL : LoT K mg "LostError" L) : FnOk P w K mg base (L2N.CX P w) 1 f fd ["self", "given"] (spIni1 K "given") := by
  refine okN F sc_InvalidName___init__ (fun vs H Q E h => by obtain ⟨a, C, v, rfl, _⟩ := h; rfl) (fun cdv Ar outer s H vs Q E hr h => ?_)
  exact ⟨_, pss_cons (ps_expr (pe_linit TL rfl (pa_cons (pv 0) (pa_cons pe_str pa_nil)))) (pss_one (ps_ost (pv 0) (pv 1))), ini1_run h⟩
theorem mk_InvalidName {h : Heap} {C I N L : Addr} {nm q : Str} {bs : List Value} {sn : List Str} {sub : List Value} {ab : Bool} {col : Option Bool} {dd : Option Addr} {x0 x1 x2 x3 x5 : Option Value} {iod ian : Option Addr} {isl : Array (Option Value)} {ioc ikV idc ipm icd ict : Value}
    (X : K.In h) (G : h.Ns mainGlobals mg) (eA : PySem.W.nsIn K mainGlobals "InvalidName" = some (some (.ref C))) (eX : K.lookup C = some (excClassObj nm q C N bs (bmL L) true sn sub ab col dd x0 x1 x2 x3 x5 "ValueError.__new__"))
    (eS : PySem.W.findIn K (.ref C) "__setattr__" = some (some (.builtin "object.__setattr__"))) (eK : PySem.W.keepIn K (.ref C) = true) (ega : PySem.W.findIn K (.ref C) "__getattribute__" = some (some (.builtin "BaseException.__getattribute__")))
    (egg : PySem.W.findIn K (.ref C) "__getattr__" = some none) (ecl : PySem.W.findIn K (.ref C) "__class__" = some (some (.builtin "object.__class__"))) (eno : PySem.W.findIn K (.ref C) "given" = some none)
    (ei : PySem.W.findIn K (.ref C) "__init__" = some (some (.ref I))) (eti : PySem.W.typeIn K (.ref I) = some (.type "function"))
    (eli : K.lookup I = some ⟨ioc, iod, .func (PySem.W.fnOf "__init__" "InvalidName.__init__" (defArgs s_InvalidName___init__) (defBody s_InvalidName___init__) (defScope s_InvalidName___init__) .none ikV idc ipm ian icd ict), isl⟩) (eci : PySem.W.codeIn K icd "InvalidName.__init__" = true) (eki : PySem.W.keepIn K (.ref I) = true)
    (S : Sh K mg L) : E1 P w K mg L "InvalidName" "given" C := by
  have F := fun_mk (st := s_InvalidName___init__) eli eci eki
  have B := eb_mk eX eS eK ega egg ecl S.sp S.tk
  exact ⟨B, I, _, ⟨B.t, PySem.W.mg_of X G eA, eno, ei, eti, F.binds (ps := ["self", "given"]) fun _ _ _ _ _ _ us hl => match us, hl with | [_, _], _ => rfl, kwi1 F fun _ _ _ _ _ _ _ _ => rfl⟩, fun base => ini_InvalidName F S.l⟩
theorem ini_InvalidOwns {f L : Addr} {fd : FuncData} (F : Fun K "__init__" "InvalidOwns.__init__" s_InvalidOwns___init__ f fd) (TL : LoT K mg "LostError" L) : FnOk P w K mg base (L2N.CX P w) 1 f fd ["self", "given"] (spIni1 K "given") := by
  refine okN F sc_InvalidOwns___init__ (fun vs H Q E h => by obtain ⟨a, C, v, rfl, _⟩ := h; rfl) (fun cdv Ar outer s H vs Q E hr h => ?_)
  exact ⟨_, pss_cons (ps_expr (pe_linit TL rfl (pa_cons (pv 0) (pa_cons pe_str pa_nil)))) (pss_one (ps_ost (pv 0) (pv 1))), ini1_run h⟩
theorem mk_InvalidOwns {h : Heap} {C I N L : Addr} {nm q : Str} {bs : List Value} {sn : List Str} {sub : List Value} {ab : Bool} {col : Option Bool} {dd : Option Addr} {x0 x1 x2 x3 x5 : Option Value} {iod ian : Option Addr} {isl : Array (Option Value)} {ioc ikV idc ipm icd ict : Value}
    (X : K.In h) (G : h.Ns mainGlobals mg) (eA : PySem.W.nsIn K mainGlobals "InvalidOwns" = some (some (.ref C))) (eX : K.lookup C = some (excClassObj nm q C N bs (bmL L) true sn sub ab col dd x0 x1 x2 x3 x5 "ValueError.__new__"))
    (eS : PySem.W.findIn K (.ref C) "__setattr__" = some (some (.builtin "object.__setattr__"))) (eK : PySem.W.keepIn K (.ref C) = true) (ega : PySem.W.findIn K (.ref C) "__getattribute__" = some (some (.builtin "BaseException.__getattribute__")))
    (egg : PySem.W.findIn K (.ref C) "__getattr__" = some none) (ecl : PySem.W.findIn K (.ref C) "__class__" = some (some (.builtin "object.__class__"))) (eno : PySem.W.findIn K (.ref C) "given" = some none)
    (ei : PySem.W.findIn K (.ref C) "__init__" = some (some (.ref I))) (eti : PySem.W.typeIn K (.ref I) = some (.type "function"))
    (eli : K.lookup I = some ⟨ioc, iod, .func (PySem.W.fnOf "__init__" "InvalidOwns.__init__" (defArgs s_InvalidOwns___init__) (defBody s_InvalidOwns___init__) (defScope s_InvalidOwns___init__) .none ikV idc ipm ian icd ict), isl⟩) (eci : PySem.W.codeIn K icd "InvalidOwns.__init__" = true) (eki : PySem.W.keepIn K (.ref I) = true)
    (S : Sh K mg L) : E1 P w K mg L "InvalidOwns" "given" C := by
  have F := fun_mk (st := s_InvalidOwns___init__) eli eci eki
  have B := eb_mk eX eS eK ega egg ecl S.sp S.tk
  exact ⟨B, I, _, ⟨B.t, PySem.W.mg_of X G eA, eno, ei, eti, F.binds (ps := ["self", "given"]) fun _ _ _ _ _ _ us hl => match us, hl with | [_, _], _ => rfl, kwi1 F fun _ _ _ _ _ _ _ _ => rfl⟩, fun base => ini_InvalidOwns F S.l⟩
theorem ini_InvalidLines {f L : Addr} {fd : FuncData} (F : Fun K "__init__" "InvalidLines.__init__" s_InvalidLines___init__ f fd) (TL : LoT K mg "LostError" L) : FnOk P w K mg base (L2N.CX P w) 1 f fd ["self", "given"] (spIni1 K "given") := by
  refine okN F sc_InvalidLines___init__ (fun vs H Q E h => by obtain ⟨a, C, v, rfl, _⟩ := h; rfl) (fun cdv Ar outer s H vs Q E hr h => ?_)
  exact ⟨_, pss_cons (ps_expr (pe_linit TL rfl (pa_cons (pv 0) (pa_cons pe_str pa_nil)))) (pss_one (ps_ost (pv 0) (pv 1))), ini1_run h⟩
theorem mk_InvalidLines {h : Heap} {C I N L : Addr} {nm q : Str} {bs : List Value} {sn : List Str} {sub : List Value} {ab : Bool} {col : Option Bool} {dd : Option Addr} {x0 x1 x2 x3 x5 : Option Value} {iod ian : Option Addr} {isl : Array (Option Value)} {ioc ikV idc ipm icd ict : Value}
    (X : K.In h) (G : h.Ns mainGlobals mg) (eA : PySem.W.nsIn K mainGlobals "InvalidLines" = some (some (.ref C))) (eX : K.lookup C = some (excClassObj nm q C N bs (bmL L) true sn sub ab col dd x0 x1 x2 x3 x5 "ValueError.__new__"))
    (eS : PySem.W.findIn K (.ref C) "__setattr__" = some (some (.builtin "object.__setattr__"))) (eK : PySem.W.keepIn K (.ref C) = true) (ega : PySem.W.findIn K (.ref C) "__getattribute__" = some (some (.builtin "BaseException.__getattribute__")))
    (egg : PySem.W.findIn K (.ref C) "__getattr__" = some none) (ecl : PySem.W.findIn K (.ref C) "__class__" = some (some (.builtin "object.__class__"))) (eno : PySem.W.findIn K (.ref C) "given" = some none)
    (ei : PySem.W.findIn K (.ref C) "__init__" = some (some (.ref I))) (eti : PySem.W.typeIn K (.ref I) = some (.type "function"))
    (eli : K.lookup I = some ⟨ioc, iod, .func (PySem.W.fnOf "__init__" "InvalidLines.__init__" (defArgs s_InvalidLines___init__) (defBody s_InvalidLines___init__) (defScope s_InvalidLines___init__) .none ikV idc ipm ian icd ict), isl⟩) (eci : PySem.W.codeIn K icd "InvalidLines.__init__" = true) (eki : PySem.W.keepIn K (.ref I) = true)
    (S : Sh K mg L) : E1 P w K mg L "InvalidLines" "given" C := by
  have F := fun_mk (st := s_InvalidLines___init__) eli eci eki
  have B := eb_mk eX eS eK ega egg ecl S.sp S.tk
  exact ⟨B, I, _, ⟨B.t, PySem.W.mg_of X G eA, eno, ei, eti, F.binds (ps := ["self", "given"]) fun _ _ _ _ _ _ us hl => match us, hl with | [_, _], _ => rfl, kwi1 F fun _ _ _ _ _ _ _ _ => rfl⟩, fun base => ini_InvalidLines F S.l⟩
theorem ini_InvalidWriters {f L : Addr} {fd : FuncData} (F : Fun K "__init__" "InvalidWriters.__init__" s_InvalidWriters___init__ f fd) (TL : LoT K mg "LostError" L) : FnOk P w K mg base (L2N.CX P w) 1 f fd ["self", "given"] (spIni1 K "given") := by
  refine okN F sc_InvalidWriters___init__ (fun vs H Q E h => by obtain ⟨a, C, v, rfl, _⟩ := h; rfl) (fun cdv Ar outer s H vs Q E hr h => ?_)
  exact ⟨_, pss_cons (ps_expr (pe_linit TL rfl (pa_cons (pv 0) (pa_cons pe_str pa_nil)))) (pss_one (ps_ost (pv 0) (pv 1))), ini1_run h⟩
theorem mk_InvalidWriters {h : Heap} {C I N L : Addr} {nm q : Str} {bs : List Value} {sn : List Str} {sub : List Value} {ab : Bool} {col : Option Bool} {dd : Option Addr} {x0 x1 x2 x3 x5 : Option Value} {iod ian : Option Addr} {isl : Array (Option Value)} {ioc ikV idc ipm icd ict : Value}
    (X : K.In h) (G : h.Ns mainGlobals mg) (eA : PySem.W.nsIn K mainGlobals "InvalidWriters" = some (some (.ref C))) (eX : K.lookup C = some (excClassObj nm q C N bs (bmL L) true sn sub ab col dd x0 x1 x2 x3 x5 "ValueError.__new__"))
    (eS : PySem.W.findIn K (.ref C) "__setattr__" = some (some (.builtin "object.__setattr__"))) (eK : PySem.W.keepIn K (.ref C) = true) (ega : PySem.W.findIn K (.ref C) "__getattribute__" = some (some (.builtin "BaseException.__getattribute__")))
    (egg : PySem.W.findIn K (.ref C) "__getattr__" = some none) (ecl : PySem.W.findIn K (.ref C) "__class__" = some (some (.builtin "object.__class__"))) (eno : PySem.W.findIn K (.ref C) "given" = some none)
    (ei : PySem.W.findIn K (.ref C) "__init__" = some (some (.ref I))) (eti : PySem.W.typeIn K (.ref I) = some (.type "function"))
    (eli : K.lookup I = some ⟨ioc, iod, .func (PySem.W.fnOf "__init__" "InvalidWriters.__init__" (defArgs s_InvalidWriters___init__) (defBody s_InvalidWriters___init__) (defScope s_InvalidWriters___init__) .none ikV idc ipm ian icd ict), isl⟩) (eci : PySem.W.codeIn K icd "InvalidWriters.__init__" = true) (eki : PySem.W.keepIn K (.ref I) = true)
    (S : Sh K mg L) : E1 P w K mg L "InvalidWriters" "given" C := by
  have F := fun_mk (st := s_InvalidWriters___init__) eli eci eki
  have B := eb_mk eX eS eK ega egg ecl S.sp S.tk
  exact ⟨B, I, _, ⟨B.t, PySem.W.mg_of X G eA, eno, ei, eti, F.binds (ps := ["self", "given"]) fun _ _ _ _ _ _ us hl => match us, hl with | [_, _], _ => rfl, kwi1 F fun _ _ _ _ _ _ _ _ => rfl⟩, fun base => ini_InvalidWriters F S.l⟩
theorem ini_InvalidRows {f L : Addr} {fd : FuncData} (F : Fun K "__init__" "InvalidRows.__init__" s_InvalidRows___init__ f fd) (TL : LoT K mg "LostError" L) : FnOk P w K mg base (L2N.CX P w) 1 f fd ["self", "given"] (spIni1 K "given") := by
  refine okN F sc_InvalidRows___init__ (fun vs H Q E h => by obtain ⟨a, C, v, rfl, _⟩ := h; rfl) (fun cdv Ar outer s H vs Q E hr h => ?_)
  exact ⟨_, pss_cons (ps_expr (pe_linit TL rfl (pa_cons (pv 0) (pa_cons pe_str pa_nil)))) (pss_one (ps_ost (pv 0) (pv 1))), ini1_run h⟩
theorem mk_InvalidRows {h : Heap} {C I N L : Addr} {nm q : Str} {bs : List Value} {sn : List Str} {sub : List Value} {ab : Bool} {col : Option Bool} {dd : Option Addr} {x0 x1 x2 x3 x5 : Option Value} {iod ian : Option Addr} {isl : Array (Option Value)} {ioc ikV idc ipm icd ict : Value}
    (X : K.In h) (G : h.Ns mainGlobals mg) (eA : PySem.W.nsIn K mainGlobals "InvalidRows" = some (some (.ref C))) (eX : K.lookup C = some (excClassObj nm q C N bs (bmL L) true sn sub ab col dd x0 x1 x2 x3 x5 "ValueError.__new__"))
    (eS : PySem.W.findIn K (.ref C) "__setattr__" = some (some (.builtin "object.__setattr__"))) (eK : PySem.W.keepIn K (.ref C) = true) (ega : PySem.W.findIn K (.ref C) "__getattribute__" = some (some (.builtin "BaseException.__getattribute__")))
    (egg : PySem.W.findIn K (.ref C) "__getattr__" = some none) (ecl : PySem.W.findIn K (.ref C) "__class__" = some (some (.builtin "object.__class__"))) (eno : PySem.W.findIn K (.ref C) "given" = some none)
    (ei : PySem.W.findIn K (.ref C) "__init__" = some (some (.ref I))) (eti : PySem.W.typeIn K (.ref I) = some (.type "function"))
    (eli : K.lookup I = some ⟨ioc, iod, .func (PySem.W.fnOf "__init__" "InvalidRows.__init__" (defArgs s_InvalidRows___init__) (defBody s_InvalidRows___init__) (defScope s_InvalidRows___init__) .none ikV idc ipm ian icd ict), isl⟩) (eci : PySem.W.codeIn K icd "InvalidRows.__init__" = true) (eki : PySem.W.keepIn K (.ref I) = true)
    (S : Sh K mg L) : E1 P w K mg L "InvalidRows" "given" C := by
  have F := fun_mk (st := s_InvalidRows___init__) eli eci eki
  have B := eb_mk eX eS eK ega egg ecl S.sp S.tk
  exact ⟨B, I, _, ⟨B.t, PySem.W.mg_of X G eA, eno, ei, eti, F.binds (ps := ["self", "given"]) fun _ _ _ _ _ _ us hl => match us, hl with | [_, _], _ => rfl, kwi1 F fun _ _ _ _ _ _ _ _ => rfl⟩, fun base => ini_InvalidRows F S.l⟩
theorem ini_NotJoined {f L : Addr} {fd : FuncData} (F : Fun K "__init__" "NotJoined.__init__" s_NotJoined___init__ f fd) (TL : LoT K mg "LostError" L) : FnOk P w K mg base (L2N.CX P w) 1 f fd ["self", "house"] (spIni1 K "house") := by
  refine okN F sc_NotJoined___init__ (fun vs H Q E h => by obtain ⟨a, C, v, rfl, _⟩ := h; rfl) (fun cdv Ar outer s H vs Q E hr h => ?_)
  exact ⟨_, pss_cons (ps_expr (pe_linit TL rfl (pa_cons (pv 0) (pa_cons pe_str pa_nil)))) (pss_one (ps_ost (pv 0) (pv 1))), ini1_run h⟩
theorem mk_NotJoined {h : Heap} {C I N L : Addr} {nm q : Str} {bs : List Value} {sn : List Str} {sub : List Value} {ab : Bool} {col : Option Bool} {dd : Option Addr} {x0 x1 x2 x3 x5 : Option Value} {iod ian : Option Addr} {isl : Array (Option Value)} {ioc ikV idc ipm icd ict : Value}
    (X : K.In h) (G : h.Ns mainGlobals mg) (eA : PySem.W.nsIn K mainGlobals "NotJoined" = some (some (.ref C))) (eX : K.lookup C = some (excClassObj nm q C N bs (bmL L) true sn sub ab col dd x0 x1 x2 x3 x5 "ValueError.__new__"))
    (eS : PySem.W.findIn K (.ref C) "__setattr__" = some (some (.builtin "object.__setattr__"))) (eK : PySem.W.keepIn K (.ref C) = true) (ega : PySem.W.findIn K (.ref C) "__getattribute__" = some (some (.builtin "BaseException.__getattribute__")))
    (egg : PySem.W.findIn K (.ref C) "__getattr__" = some none) (ecl : PySem.W.findIn K (.ref C) "__class__" = some (some (.builtin "object.__class__"))) (eno : PySem.W.findIn K (.ref C) "house" = some none)
    (ei : PySem.W.findIn K (.ref C) "__init__" = some (some (.ref I))) (eti : PySem.W.typeIn K (.ref I) = some (.type "function"))
    (eli : K.lookup I = some ⟨ioc, iod, .func (PySem.W.fnOf "__init__" "NotJoined.__init__" (defArgs s_NotJoined___init__) (defBody s_NotJoined___init__) (defScope s_NotJoined___init__) .none ikV idc ipm ian icd ict), isl⟩) (eci : PySem.W.codeIn K icd "NotJoined.__init__" = true) (eki : PySem.W.keepIn K (.ref I) = true)
    (S : Sh K mg L) : E1 P w K mg L "NotJoined" "house" C := by
  have F := fun_mk (st := s_NotJoined___init__) eli eci eki
  have B := eb_mk eX eS eK ega egg ecl S.sp S.tk
  exact ⟨B, I, _, ⟨B.t, PySem.W.mg_of X G eA, eno, ei, eti, F.binds (ps := ["self", "house"]) fun _ _ _ _ _ _ us hl => match us, hl with | [_, _], _ => rfl, kwi1 F fun _ _ _ _ _ _ _ _ => rfl⟩, fun base => ini_NotJoined F S.l⟩
theorem ini_Stopped {f L : Addr} {fd : FuncData} (F : Fun K "__init__" "Stopped.__init__" s_Stopped___init__ f fd) (TL : LoT K mg "LostError" L) : FnOk P w K mg base (L2N.CX P w) 1 f fd ["self", "house"] (spIni1 K "house") := by
  refine okN F sc_Stopped___init__ (fun vs H Q E h => by obtain ⟨a, C, v, rfl, _⟩ := h; rfl) (fun cdv Ar outer s H vs Q E hr h => ?_)
  exact ⟨_, pss_cons (ps_expr (pe_linit TL rfl (pa_cons (pv 0) (pa_cons pe_str pa_nil)))) (pss_one (ps_ost (pv 0) (pv 1))), ini1_run h⟩
theorem mk_Stopped {h : Heap} {C I N L : Addr} {nm q : Str} {bs : List Value} {sn : List Str} {sub : List Value} {ab : Bool} {col : Option Bool} {dd : Option Addr} {x0 x1 x2 x3 x5 : Option Value} {iod ian : Option Addr} {isl : Array (Option Value)} {ioc ikV idc ipm icd ict : Value}
    (X : K.In h) (G : h.Ns mainGlobals mg) (eA : PySem.W.nsIn K mainGlobals "Stopped" = some (some (.ref C))) (eX : K.lookup C = some (excClassObj nm q C N bs (bmL L) true sn sub ab col dd x0 x1 x2 x3 x5 "ValueError.__new__"))
    (eS : PySem.W.findIn K (.ref C) "__setattr__" = some (some (.builtin "object.__setattr__"))) (eK : PySem.W.keepIn K (.ref C) = true) (ega : PySem.W.findIn K (.ref C) "__getattribute__" = some (some (.builtin "BaseException.__getattribute__")))
    (egg : PySem.W.findIn K (.ref C) "__getattr__" = some none) (ecl : PySem.W.findIn K (.ref C) "__class__" = some (some (.builtin "object.__class__"))) (eno : PySem.W.findIn K (.ref C) "house" = some none)
    (ei : PySem.W.findIn K (.ref C) "__init__" = some (some (.ref I))) (eti : PySem.W.typeIn K (.ref I) = some (.type "function"))
    (eli : K.lookup I = some ⟨ioc, iod, .func (PySem.W.fnOf "__init__" "Stopped.__init__" (defArgs s_Stopped___init__) (defBody s_Stopped___init__) (defScope s_Stopped___init__) .none ikV idc ipm ian icd ict), isl⟩) (eci : PySem.W.codeIn K icd "Stopped.__init__" = true) (eki : PySem.W.keepIn K (.ref I) = true)
    (S : Sh K mg L) : E1 P w K mg L "Stopped" "house" C := by
  have F := fun_mk (st := s_Stopped___init__) eli eci eki
  have B := eb_mk eX eS eK ega egg ecl S.sp S.tk
  exact ⟨B, I, _, ⟨B.t, PySem.W.mg_of X G eA, eno, ei, eti, F.binds (ps := ["self", "house"]) fun _ _ _ _ _ _ us hl => match us, hl with | [_, _], _ => rfl, kwi1 F fun _ _ _ _ _ _ _ _ => rfl⟩, fun base => ini_Stopped F S.l⟩
theorem ini_Refused {f L : Addr} {fd : FuncData} (F : Fun K "__init__" "Refused.__init__" s_Refused___init__ f fd) (TL : LoT K mg "LostError" L) : FnOk P w K mg base (L2N.CX P w) 1 f fd ["self", "at"] (spIni1 K "at") := by
  refine okN F sc_Refused___init__ (fun vs H Q E h => by obtain ⟨a, C, v, rfl, _⟩ := h; rfl) (fun cdv Ar outer s H vs Q E hr h => ?_)
  exact ⟨_, pss_cons (ps_expr (pe_linit TL rfl (pa_cons (pv 0) (pa_cons pe_str pa_nil)))) (pss_one (ps_ost (pv 0) (pv 1))), ini1_run h⟩
theorem mk_Refused {h : Heap} {C I N L : Addr} {nm q : Str} {bs : List Value} {sn : List Str} {sub : List Value} {ab : Bool} {col : Option Bool} {dd : Option Addr} {x0 x1 x2 x3 x5 : Option Value} {iod ian : Option Addr} {isl : Array (Option Value)} {ioc ikV idc ipm icd ict : Value}
    (X : K.In h) (G : h.Ns mainGlobals mg) (eA : PySem.W.nsIn K mainGlobals "Refused" = some (some (.ref C))) (eX : K.lookup C = some (excClassObj nm q C N bs (bmL L) true sn sub ab col dd x0 x1 x2 x3 x5 "ValueError.__new__"))
    (eS : PySem.W.findIn K (.ref C) "__setattr__" = some (some (.builtin "object.__setattr__"))) (eK : PySem.W.keepIn K (.ref C) = true) (ega : PySem.W.findIn K (.ref C) "__getattribute__" = some (some (.builtin "BaseException.__getattribute__")))
    (egg : PySem.W.findIn K (.ref C) "__getattr__" = some none) (ecl : PySem.W.findIn K (.ref C) "__class__" = some (some (.builtin "object.__class__"))) (eno : PySem.W.findIn K (.ref C) "at" = some none)
    (ei : PySem.W.findIn K (.ref C) "__init__" = some (some (.ref I))) (eti : PySem.W.typeIn K (.ref I) = some (.type "function"))
    (eli : K.lookup I = some ⟨ioc, iod, .func (PySem.W.fnOf "__init__" "Refused.__init__" (defArgs s_Refused___init__) (defBody s_Refused___init__) (defScope s_Refused___init__) .none ikV idc ipm ian icd ict), isl⟩) (eci : PySem.W.codeIn K icd "Refused.__init__" = true) (eki : PySem.W.keepIn K (.ref I) = true)
    (S : Sh K mg L) : E1 P w K mg L "Refused" "at" C := by
  have F := fun_mk (st := s_Refused___init__) eli eci eki
  have B := eb_mk eX eS eK ega egg ecl S.sp S.tk
  exact ⟨B, I, _, ⟨B.t, PySem.W.mg_of X G eA, eno, ei, eti, F.binds (ps := ["self", "at"]) fun _ _ _ _ _ _ us hl => match us, hl with | [_, _], _ => rfl, kwi1 F fun _ _ _ _ _ _ _ _ => rfl⟩, fun base => ini_Refused F S.l⟩
theorem ini_Ringed {f L : Addr} {fd : FuncData} (F : Fun K "__init__" "Ringed.__init__" s_Ringed___init__ f fd) (TL : LoT K mg "LostError" L) : FnOk P w K mg base (L2N.CX P w) 1 f fd ["self", "names"] (spIni1 K "names") := by
  refine okN F sc_Ringed___init__ (fun vs H Q E h => by obtain ⟨a, C, v, rfl, _⟩ := h; rfl) (fun cdv Ar outer s H vs Q E hr h => ?_)
  exact ⟨_, pss_cons (ps_expr (pe_linit TL rfl (pa_cons (pv 0) (pa_cons pe_str pa_nil)))) (pss_one (ps_ost (pv 0) (pv 1))), ini1_run h⟩
theorem mk_Ringed {h : Heap} {C I N L : Addr} {nm q : Str} {bs : List Value} {sn : List Str} {sub : List Value} {ab : Bool} {col : Option Bool} {dd : Option Addr} {x0 x1 x2 x3 x5 : Option Value} {iod ian : Option Addr} {isl : Array (Option Value)} {ioc ikV idc ipm icd ict : Value}
    (X : K.In h) (G : h.Ns mainGlobals mg) (eA : PySem.W.nsIn K mainGlobals "Ringed" = some (some (.ref C))) (eX : K.lookup C = some (excClassObj nm q C N bs (bmL L) true sn sub ab col dd x0 x1 x2 x3 x5 "ValueError.__new__"))
    (eS : PySem.W.findIn K (.ref C) "__setattr__" = some (some (.builtin "object.__setattr__"))) (eK : PySem.W.keepIn K (.ref C) = true) (ega : PySem.W.findIn K (.ref C) "__getattribute__" = some (some (.builtin "BaseException.__getattribute__")))
    (egg : PySem.W.findIn K (.ref C) "__getattr__" = some none) (ecl : PySem.W.findIn K (.ref C) "__class__" = some (some (.builtin "object.__class__"))) (eno : PySem.W.findIn K (.ref C) "names" = some none)
    (ei : PySem.W.findIn K (.ref C) "__init__" = some (some (.ref I))) (eti : PySem.W.typeIn K (.ref I) = some (.type "function"))
    (eli : K.lookup I = some ⟨ioc, iod, .func (PySem.W.fnOf "__init__" "Ringed.__init__" (defArgs s_Ringed___init__) (defBody s_Ringed___init__) (defScope s_Ringed___init__) .none ikV idc ipm ian icd ict), isl⟩) (eci : PySem.W.codeIn K icd "Ringed.__init__" = true) (eki : PySem.W.keepIn K (.ref I) = true)
    (S : Sh K mg L) : E1 P w K mg L "Ringed" "names" C := by
  have F := fun_mk (st := s_Ringed___init__) eli eci eki
  have B := eb_mk eX eS eK ega egg ecl S.sp S.tk
  exact ⟨B, I, _, ⟨B.t, PySem.W.mg_of X G eA, eno, ei, eti, F.binds (ps := ["self", "names"]) fun _ _ _ _ _ _ us hl => match us, hl with | [_, _], _ => rfl, kwi1 F fun _ _ _ _ _ _ _ _ => rfl⟩, fun base => ini_Ringed F S.l⟩
theorem ini_NoRow {f L : Addr} {fd : FuncData} (F : Fun K "__init__" "NoRow.__init__" s_NoRow___init__ f fd) (TL : LoT K mg "LostError" L) : FnOk P w K mg base (L2N.CX P w) 1 f fd ["self", "names"] (spIni1 K "names") := by
  refine okN F sc_NoRow___init__ (fun vs H Q E h => by obtain ⟨a, C, v, rfl, _⟩ := h; rfl) (fun cdv Ar outer s H vs Q E hr h => ?_)
  exact ⟨_, pss_cons (ps_expr (pe_linit TL rfl (pa_cons (pv 0) (pa_cons pe_str pa_nil)))) (pss_one (ps_ost (pv 0) (pv 1))), ini1_run h⟩
theorem mk_NoRow {h : Heap} {C I N L : Addr} {nm q : Str} {bs : List Value} {sn : List Str} {sub : List Value} {ab : Bool} {col : Option Bool} {dd : Option Addr} {x0 x1 x2 x3 x5 : Option Value} {iod ian : Option Addr} {isl : Array (Option Value)} {ioc ikV idc ipm icd ict : Value}
    (X : K.In h) (G : h.Ns mainGlobals mg) (eA : PySem.W.nsIn K mainGlobals "NoRow" = some (some (.ref C))) (eX : K.lookup C = some (excClassObj nm q C N bs (bmL L) true sn sub ab col dd x0 x1 x2 x3 x5 "ValueError.__new__"))
    (eS : PySem.W.findIn K (.ref C) "__setattr__" = some (some (.builtin "object.__setattr__"))) (eK : PySem.W.keepIn K (.ref C) = true) (ega : PySem.W.findIn K (.ref C) "__getattribute__" = some (some (.builtin "BaseException.__getattribute__")))
    (egg : PySem.W.findIn K (.ref C) "__getattr__" = some none) (ecl : PySem.W.findIn K (.ref C) "__class__" = some (some (.builtin "object.__class__"))) (eno : PySem.W.findIn K (.ref C) "names" = some none)
    (ei : PySem.W.findIn K (.ref C) "__init__" = some (some (.ref I))) (eti : PySem.W.typeIn K (.ref I) = some (.type "function"))
    (eli : K.lookup I = some ⟨ioc, iod, .func (PySem.W.fnOf "__init__" "NoRow.__init__" (defArgs s_NoRow___init__) (defBody s_NoRow___init__) (defScope s_NoRow___init__) .none ikV idc ipm ian icd ict), isl⟩) (eci : PySem.W.codeIn K icd "NoRow.__init__" = true) (eki : PySem.W.keepIn K (.ref I) = true)
    (S : Sh K mg L) : E1 P w K mg L "NoRow" "names" C := by
  have F := fun_mk (st := s_NoRow___init__) eli eci eki
  have B := eb_mk eX eS eK ega egg ecl S.sp S.tk
  exact ⟨B, I, _, ⟨B.t, PySem.W.mg_of X G eA, eno, ei, eti, F.binds (ps := ["self", "names"]) fun _ _ _ _ _ _ us hl => match us, hl with | [_, _], _ => rfl, kwi1 F fun _ _ _ _ _ _ _ _ => rfl⟩, fun base => ini_NoRow F S.l⟩
theorem ini_NotTwo {f L : Addr} {fd : FuncData} (F : Fun K "__init__" "NotTwo.__init__" s_NotTwo___init__ f fd) (TL : LoT K mg "LostError" L) : FnOk P w K mg base (L2N.CX P w) 1 f fd ["self", "many"] (spIni1 K "many") := by
  refine okN F sc_NotTwo___init__ (fun vs H Q E h => by obtain ⟨a, C, v, rfl, _⟩ := h; rfl) (fun cdv Ar outer s H vs Q E hr h => ?_)
  exact ⟨_, pss_cons (ps_expr (pe_linit TL rfl (pa_cons (pv 0) (pa_cons pe_str pa_nil)))) (pss_one (ps_ost (pv 0) (pv 1))), ini1_run h⟩
theorem mk_NotTwo {h : Heap} {C I N L : Addr} {nm q : Str} {bs : List Value} {sn : List Str} {sub : List Value} {ab : Bool} {col : Option Bool} {dd : Option Addr} {x0 x1 x2 x3 x5 : Option Value} {iod ian : Option Addr} {isl : Array (Option Value)} {ioc ikV idc ipm icd ict : Value}
    (X : K.In h) (G : h.Ns mainGlobals mg) (eA : PySem.W.nsIn K mainGlobals "NotTwo" = some (some (.ref C))) (eX : K.lookup C = some (excClassObj nm q C N bs (bmL L) true sn sub ab col dd x0 x1 x2 x3 x5 "ValueError.__new__"))
    (eS : PySem.W.findIn K (.ref C) "__setattr__" = some (some (.builtin "object.__setattr__"))) (eK : PySem.W.keepIn K (.ref C) = true) (ega : PySem.W.findIn K (.ref C) "__getattribute__" = some (some (.builtin "BaseException.__getattribute__")))
    (egg : PySem.W.findIn K (.ref C) "__getattr__" = some none) (ecl : PySem.W.findIn K (.ref C) "__class__" = some (some (.builtin "object.__class__"))) (eno : PySem.W.findIn K (.ref C) "many" = some none)
    (ei : PySem.W.findIn K (.ref C) "__init__" = some (some (.ref I))) (eti : PySem.W.typeIn K (.ref I) = some (.type "function"))
    (eli : K.lookup I = some ⟨ioc, iod, .func (PySem.W.fnOf "__init__" "NotTwo.__init__" (defArgs s_NotTwo___init__) (defBody s_NotTwo___init__) (defScope s_NotTwo___init__) .none ikV idc ipm ian icd ict), isl⟩) (eci : PySem.W.codeIn K icd "NotTwo.__init__" = true) (eki : PySem.W.keepIn K (.ref I) = true)
    (S : Sh K mg L) : E1 P w K mg L "NotTwo" "many" C := by
  have F := fun_mk (st := s_NotTwo___init__) eli eci eki
  have B := eb_mk eX eS eK ega egg ecl S.sp S.tk
  exact ⟨B, I, _, ⟨B.t, PySem.W.mg_of X G eA, eno, ei, eti, F.binds (ps := ["self", "many"]) fun _ _ _ _ _ _ us hl => match us, hl with | [_, _], _ => rfl, kwi1 F fun _ _ _ _ _ _ _ _ => rfl⟩, fun base => ini_NotTwo F S.l⟩
theorem ini_Nobodys {f L : Addr} {fd : FuncData} (F : Fun K "__init__" "Nobodys.__init__" s_Nobodys___init__ f fd) (TL : LoT K mg "LostError" L) : FnOk P w K mg base (L2N.CX P w) 1 f fd ["self", "picture"] (spIni1 K "picture") := by
  refine okN F sc_Nobodys___init__ (fun vs H Q E h => by obtain ⟨a, C, v, rfl, _⟩ := h; rfl) (fun cdv Ar outer s H vs Q E hr h => ?_)
  exact ⟨_, pss_cons (ps_expr (pe_linit TL rfl (pa_cons (pv 0) (pa_cons pe_str pa_nil)))) (pss_one (ps_ost (pv 0) (pv 1))), ini1_run h⟩
theorem mk_Nobodys {h : Heap} {C I N L : Addr} {nm q : Str} {bs : List Value} {sn : List Str} {sub : List Value} {ab : Bool} {col : Option Bool} {dd : Option Addr} {x0 x1 x2 x3 x5 : Option Value} {iod ian : Option Addr} {isl : Array (Option Value)} {ioc ikV idc ipm icd ict : Value}
    (X : K.In h) (G : h.Ns mainGlobals mg) (eA : PySem.W.nsIn K mainGlobals "Nobodys" = some (some (.ref C))) (eX : K.lookup C = some (excClassObj nm q C N bs (bmL L) true sn sub ab col dd x0 x1 x2 x3 x5 "ValueError.__new__"))
    (eS : PySem.W.findIn K (.ref C) "__setattr__" = some (some (.builtin "object.__setattr__"))) (eK : PySem.W.keepIn K (.ref C) = true) (ega : PySem.W.findIn K (.ref C) "__getattribute__" = some (some (.builtin "BaseException.__getattribute__")))
    (egg : PySem.W.findIn K (.ref C) "__getattr__" = some none) (ecl : PySem.W.findIn K (.ref C) "__class__" = some (some (.builtin "object.__class__"))) (eno : PySem.W.findIn K (.ref C) "picture" = some none)
    (ei : PySem.W.findIn K (.ref C) "__init__" = some (some (.ref I))) (eti : PySem.W.typeIn K (.ref I) = some (.type "function"))
    (eli : K.lookup I = some ⟨ioc, iod, .func (PySem.W.fnOf "__init__" "Nobodys.__init__" (defArgs s_Nobodys___init__) (defBody s_Nobodys___init__) (defScope s_Nobodys___init__) .none ikV idc ipm ian icd ict), isl⟩) (eci : PySem.W.codeIn K icd "Nobodys.__init__" = true) (eki : PySem.W.keepIn K (.ref I) = true)
    (S : Sh K mg L) : E1 P w K mg L "Nobodys" "picture" C := by
  have F := fun_mk (st := s_Nobodys___init__) eli eci eki
  have B := eb_mk eX eS eK ega egg ecl S.sp S.tk
  exact ⟨B, I, _, ⟨B.t, PySem.W.mg_of X G eA, eno, ei, eti, F.binds (ps := ["self", "picture"]) fun _ _ _ _ _ _ us hl => match us, hl with | [_, _], _ => rfl, kwi1 F fun _ _ _ _ _ _ _ _ => rfl⟩, fun base => ini_Nobodys F S.l⟩
theorem ini_Crossed {f L : Addr} {fd : FuncData} (F : Fun K "__init__" "Crossed.__init__" s_Crossed___init__ f fd) (TL : LoT K mg "LostError" L) : FnOk P w K mg base (L2N.CX P w) 1 f fd ["self", "cross"] (spIni1 K "cross") := by
  refine okN F sc_Crossed___init__ (fun vs H Q E h => by obtain ⟨a, C, v, rfl, _⟩ := h; rfl) (fun cdv Ar outer s H vs Q E hr h => ?_)
  exact ⟨_, pss_cons (ps_expr (pe_linit TL rfl (pa_cons (pv 0) (pa_cons pe_str pa_nil)))) (pss_one (ps_ost (pv 0) (pv 1))), ini1_run h⟩
theorem mk_Crossed {h : Heap} {C I N L : Addr} {nm q : Str} {bs : List Value} {sn : List Str} {sub : List Value} {ab : Bool} {col : Option Bool} {dd : Option Addr} {x0 x1 x2 x3 x5 : Option Value} {iod ian : Option Addr} {isl : Array (Option Value)} {ioc ikV idc ipm icd ict : Value}
    (X : K.In h) (G : h.Ns mainGlobals mg) (eA : PySem.W.nsIn K mainGlobals "Crossed" = some (some (.ref C))) (eX : K.lookup C = some (excClassObj nm q C N bs (bmL L) true sn sub ab col dd x0 x1 x2 x3 x5 "ValueError.__new__"))
    (eS : PySem.W.findIn K (.ref C) "__setattr__" = some (some (.builtin "object.__setattr__"))) (eK : PySem.W.keepIn K (.ref C) = true) (ega : PySem.W.findIn K (.ref C) "__getattribute__" = some (some (.builtin "BaseException.__getattribute__")))
    (egg : PySem.W.findIn K (.ref C) "__getattr__" = some none) (ecl : PySem.W.findIn K (.ref C) "__class__" = some (some (.builtin "object.__class__"))) (eno : PySem.W.findIn K (.ref C) "cross" = some none)
    (ei : PySem.W.findIn K (.ref C) "__init__" = some (some (.ref I))) (eti : PySem.W.typeIn K (.ref I) = some (.type "function"))
    (eli : K.lookup I = some ⟨ioc, iod, .func (PySem.W.fnOf "__init__" "Crossed.__init__" (defArgs s_Crossed___init__) (defBody s_Crossed___init__) (defScope s_Crossed___init__) .none ikV idc ipm ian icd ict), isl⟩) (eci : PySem.W.codeIn K icd "Crossed.__init__" = true) (eki : PySem.W.keepIn K (.ref I) = true)
    (S : Sh K mg L) : E1 P w K mg L "Crossed" "cross" C := by
  have F := fun_mk (st := s_Crossed___init__) eli eci eki
  have B := eb_mk eX eS eK ega egg ecl S.sp S.tk
  exact ⟨B, I, _, ⟨B.t, PySem.W.mg_of X G eA, eno, ei, eti, F.binds (ps := ["self", "cross"]) fun _ _ _ _ _ _ us hl => match us, hl with | [_, _], _ => rfl, kwi1 F fun _ _ _ _ _ _ _ _ => rfl⟩, fun base => ini_Crossed F S.l⟩
theorem ini_NotWhole {f L : Addr} {fd : FuncData} (F : Fun K "__init__" "NotWhole.__init__" s_NotWhole___init__ f fd) (TL : LoT K mg "LostError" L) : FnOk P w K mg base (L2N.CX P w) 1 f fd ["self", "reader"] (spIni1 K "reader") := by
  refine okN F sc_NotWhole___init__ (fun vs H Q E h => by obtain ⟨a, C, v, rfl, _⟩ := h; rfl) (fun cdv Ar outer s H vs Q E hr h => ?_)
  exact ⟨_, pss_cons (ps_expr (pe_linit TL rfl (pa_cons (pv 0) (pa_cons pe_str pa_nil)))) (pss_one (ps_ost (pv 0) (pv 1))), ini1_run h⟩
theorem mk_NotWhole {h : Heap} {C I N L : Addr} {nm q : Str} {bs : List Value} {sn : List Str} {sub : List Value} {ab : Bool} {col : Option Bool} {dd : Option Addr} {x0 x1 x2 x3 x5 : Option Value} {iod ian : Option Addr} {isl : Array (Option Value)} {ioc ikV idc ipm icd ict : Value}
    (X : K.In h) (G : h.Ns mainGlobals mg) (eA : PySem.W.nsIn K mainGlobals "NotWhole" = some (some (.ref C))) (eX : K.lookup C = some (excClassObj nm q C N bs (bmL L) true sn sub ab col dd x0 x1 x2 x3 x5 "ValueError.__new__"))
    (eS : PySem.W.findIn K (.ref C) "__setattr__" = some (some (.builtin "object.__setattr__"))) (eK : PySem.W.keepIn K (.ref C) = true) (ega : PySem.W.findIn K (.ref C) "__getattribute__" = some (some (.builtin "BaseException.__getattribute__")))
    (egg : PySem.W.findIn K (.ref C) "__getattr__" = some none) (ecl : PySem.W.findIn K (.ref C) "__class__" = some (some (.builtin "object.__class__"))) (eno : PySem.W.findIn K (.ref C) "reader" = some none)
    (ei : PySem.W.findIn K (.ref C) "__init__" = some (some (.ref I))) (eti : PySem.W.typeIn K (.ref I) = some (.type "function"))
    (eli : K.lookup I = some ⟨ioc, iod, .func (PySem.W.fnOf "__init__" "NotWhole.__init__" (defArgs s_NotWhole___init__) (defBody s_NotWhole___init__) (defScope s_NotWhole___init__) .none ikV idc ipm ian icd ict), isl⟩) (eci : PySem.W.codeIn K icd "NotWhole.__init__" = true) (eki : PySem.W.keepIn K (.ref I) = true)
    (S : Sh K mg L) : E1 P w K mg L "NotWhole" "reader" C := by
  have F := fun_mk (st := s_NotWhole___init__) eli eci eki
  have B := eb_mk eX eS eK ega egg ecl S.sp S.tk
  exact ⟨B, I, _, ⟨B.t, PySem.W.mg_of X G eA, eno, ei, eti, F.binds (ps := ["self", "reader"]) fun _ _ _ _ _ _ us hl => match us, hl with | [_, _], _ => rfl, kwi1 F fun _ _ _ _ _ _ _ _ => rfl⟩, fun base => ini_NotWhole F S.l⟩
theorem ini_Fitless {f L : Addr} {fd : FuncData} (F : Fun K "__init__" "Fitless.__init__" s_Fitless___init__ f fd) (TL : LoT K mg "LostError" L) : FnOk P w K mg base (L2N.CX P w) 1 f fd ["self", "picture"] (spIni1 K "picture") := by
  refine okN F sc_Fitless___init__ (fun vs H Q E h => by obtain ⟨a, C, v, rfl, _⟩ := h; rfl) (fun cdv Ar outer s H vs Q E hr h => ?_)
  exact ⟨_, pss_cons (ps_expr (pe_linit TL rfl (pa_cons (pv 0) (pa_cons pe_str pa_nil)))) (pss_one (ps_ost (pv 0) (pv 1))), ini1_run h⟩
theorem mk_Fitless {h : Heap} {C I N L : Addr} {nm q : Str} {bs : List Value} {sn : List Str} {sub : List Value} {ab : Bool} {col : Option Bool} {dd : Option Addr} {x0 x1 x2 x3 x5 : Option Value} {iod ian : Option Addr} {isl : Array (Option Value)} {ioc ikV idc ipm icd ict : Value}
    (X : K.In h) (G : h.Ns mainGlobals mg) (eA : PySem.W.nsIn K mainGlobals "Fitless" = some (some (.ref C))) (eX : K.lookup C = some (excClassObj nm q C N bs (bmL L) true sn sub ab col dd x0 x1 x2 x3 x5 "ValueError.__new__"))
    (eS : PySem.W.findIn K (.ref C) "__setattr__" = some (some (.builtin "object.__setattr__"))) (eK : PySem.W.keepIn K (.ref C) = true) (ega : PySem.W.findIn K (.ref C) "__getattribute__" = some (some (.builtin "BaseException.__getattribute__")))
    (egg : PySem.W.findIn K (.ref C) "__getattr__" = some none) (ecl : PySem.W.findIn K (.ref C) "__class__" = some (some (.builtin "object.__class__"))) (eno : PySem.W.findIn K (.ref C) "picture" = some none)
    (ei : PySem.W.findIn K (.ref C) "__init__" = some (some (.ref I))) (eti : PySem.W.typeIn K (.ref I) = some (.type "function"))
    (eli : K.lookup I = some ⟨ioc, iod, .func (PySem.W.fnOf "__init__" "Fitless.__init__" (defArgs s_Fitless___init__) (defBody s_Fitless___init__) (defScope s_Fitless___init__) .none ikV idc ipm ian icd ict), isl⟩) (eci : PySem.W.codeIn K icd "Fitless.__init__" = true) (eki : PySem.W.keepIn K (.ref I) = true)
    (S : Sh K mg L) : E1 P w K mg L "Fitless" "picture" C := by
  have F := fun_mk (st := s_Fitless___init__) eli eci eki
  have B := eb_mk eX eS eK ega egg ecl S.sp S.tk
  exact ⟨B, I, _, ⟨B.t, PySem.W.mg_of X G eA, eno, ei, eti, F.binds (ps := ["self", "picture"]) fun _ _ _ _ _ _ us hl => match us, hl with | [_, _], _ => rfl, kwi1 F fun _ _ _ _ _ _ _ _ => rfl⟩, fun base => ini_Fitless F S.l⟩
theorem ini_Clash {f L : Addr} {fd : FuncData} (F : Fun K "__init__" "Clash.__init__" s_Clash___init__ f fd) (TL : LoT K mg "LostError" L) : FnOk P w K mg base (L2N.CX P w) 1 f fd ["self", "reader"] (spIni1 K "reader") := by
  refine okN F sc_Clash___init__ (fun vs H Q E h => by obtain ⟨a, C, v, rfl, _⟩ := h; rfl) (fun cdv Ar outer s H vs Q E hr h => ?_)
  exact ⟨_, pss_cons (ps_expr (pe_linit TL rfl (pa_cons (pv 0) (pa_cons pe_str pa_nil)))) (pss_one (ps_ost (pv 0) (pv 1))), ini1_run h⟩
theorem mk_Clash {h : Heap} {C I N L : Addr} {nm q : Str} {bs : List Value} {sn : List Str} {sub : List Value} {ab : Bool} {col : Option Bool} {dd : Option Addr} {x0 x1 x2 x3 x5 : Option Value} {iod ian : Option Addr} {isl : Array (Option Value)} {ioc ikV idc ipm icd ict : Value}
    (X : K.In h) (G : h.Ns mainGlobals mg) (eA : PySem.W.nsIn K mainGlobals "Clash" = some (some (.ref C))) (eX : K.lookup C = some (excClassObj nm q C N bs (bmL L) true sn sub ab col dd x0 x1 x2 x3 x5 "ValueError.__new__"))
    (eS : PySem.W.findIn K (.ref C) "__setattr__" = some (some (.builtin "object.__setattr__"))) (eK : PySem.W.keepIn K (.ref C) = true) (ega : PySem.W.findIn K (.ref C) "__getattribute__" = some (some (.builtin "BaseException.__getattribute__")))
    (egg : PySem.W.findIn K (.ref C) "__getattr__" = some none) (ecl : PySem.W.findIn K (.ref C) "__class__" = some (some (.builtin "object.__class__"))) (eno : PySem.W.findIn K (.ref C) "reader" = some none)
    (ei : PySem.W.findIn K (.ref C) "__init__" = some (some (.ref I))) (eti : PySem.W.typeIn K (.ref I) = some (.type "function"))
    (eli : K.lookup I = some ⟨ioc, iod, .func (PySem.W.fnOf "__init__" "Clash.__init__" (defArgs s_Clash___init__) (defBody s_Clash___init__) (defScope s_Clash___init__) .none ikV idc ipm ian icd ict), isl⟩) (eci : PySem.W.codeIn K icd "Clash.__init__" = true) (eki : PySem.W.keepIn K (.ref I) = true)
    (S : Sh K mg L) : E1 P w K mg L "Clash" "reader" C := by
  have F := fun_mk (st := s_Clash___init__) eli eci eki
  have B := eb_mk eX eS eK ega egg ecl S.sp S.tk
  exact ⟨B, I, _, ⟨B.t, PySem.W.mg_of X G eA, eno, ei, eti, F.binds (ps := ["self", "reader"]) fun _ _ _ _ _ _ us hl => match us, hl with | [_, _], _ => rfl, kwi1 F fun _ _ _ _ _ _ _ _ => rfl⟩, fun base => ini_Clash F S.l⟩
theorem ini_TooMany {f L : Addr} {fd : FuncData} (F : Fun K "__init__" "TooMany.__init__" s_TooMany___init__ f fd) (TL : LoT K mg "LostError" L) : FnOk P w K mg base (L2N.CX P w) 1 f fd ["self", "count"] (spIni1 K "count") := by
  refine okN F sc_TooMany___init__ (fun vs H Q E h => by obtain ⟨a, C, v, rfl, _⟩ := h; rfl) (fun cdv Ar outer s H vs Q E hr h => ?_)
  exact ⟨_, pss_cons (ps_expr (pe_linit TL rfl (pa_cons (pv 0) (pa_cons pe_str pa_nil)))) (pss_one (ps_ost (pv 0) (pv 1))), ini1_run h⟩
theorem mk_TooMany {h : Heap} {C I N L : Addr} {nm q : Str} {bs : List Value} {sn : List Str} {sub : List Value} {ab : Bool} {col : Option Bool} {dd : Option Addr} {x0 x1 x2 x3 x5 : Option Value} {iod ian : Option Addr} {isl : Array (Option Value)} {ioc ikV idc ipm icd ict : Value}
    (X : K.In h) (G : h.Ns mainGlobals mg) (eA : PySem.W.nsIn K mainGlobals "TooMany" = some (some (.ref C))) (eX : K.lookup C = some (excClassObj nm q C N bs (bmL L) true sn sub ab col dd x0 x1 x2 x3 x5 "ValueError.__new__"))
    (eS : PySem.W.findIn K (.ref C) "__setattr__" = some (some (.builtin "object.__setattr__"))) (eK : PySem.W.keepIn K (.ref C) = true) (ega : PySem.W.findIn K (.ref C) "__getattribute__" = some (some (.builtin "BaseException.__getattribute__")))
    (egg : PySem.W.findIn K (.ref C) "__getattr__" = some none) (ecl : PySem.W.findIn K (.ref C) "__class__" = some (some (.builtin "object.__class__"))) (eno : PySem.W.findIn K (.ref C) "count" = some none)
    (ei : PySem.W.findIn K (.ref C) "__init__" = some (some (.ref I))) (eti : PySem.W.typeIn K (.ref I) = some (.type "function"))
    (eli : K.lookup I = some ⟨ioc, iod, .func (PySem.W.fnOf "__init__" "TooMany.__init__" (defArgs s_TooMany___init__) (defBody s_TooMany___init__) (defScope s_TooMany___init__) .none ikV idc ipm ian icd ict), isl⟩) (eci : PySem.W.codeIn K icd "TooMany.__init__" = true) (eki : PySem.W.keepIn K (.ref I) = true)
    (S : Sh K mg L) : E1 P w K mg L "TooMany" "count" C := by
  have F := fun_mk (st := s_TooMany___init__) eli eci eki
  have B := eb_mk eX eS eK ega egg ecl S.sp S.tk
  exact ⟨B, I, _, ⟨B.t, PySem.W.mg_of X G eA, eno, ei, eti, F.binds (ps := ["self", "count"]) fun _ _ _ _ _ _ us hl => match us, hl with | [_, _], _ => rfl, kwi1 F fun _ _ _ _ _ _ _ _ => rfl⟩, fun base => ini_TooMany F S.l⟩
theorem ini_NoLetter {f L : Addr} {fd : FuncData} (F : Fun K "__init__" "NoLetter.__init__" s_NoLetter___init__ f fd) (TL : LoT K mg "LostError" L) : FnOk P w K mg base (L2N.CX P w) 1 f fd ["self", "k"] (spIni1 K "k") := by
  refine okN F sc_NoLetter___init__ (fun vs H Q E h => by obtain ⟨a, C, v, rfl, _⟩ := h; rfl) (fun cdv Ar outer s H vs Q E hr h => ?_)
  exact ⟨_, pss_cons (ps_expr (pe_linit TL rfl (pa_cons (pv 0) (pa_cons pe_str pa_nil)))) (pss_one (ps_ost (pv 0) (pv 1))), ini1_run h⟩
theorem mk_NoLetter {h : Heap} {C I N L : Addr} {nm q : Str} {bs : List Value} {sn : List Str} {sub : List Value} {ab : Bool} {col : Option Bool} {dd : Option Addr} {x0 x1 x2 x3 x5 : Option Value} {iod ian : Option Addr} {isl : Array (Option Value)} {ioc ikV idc ipm icd ict : Value}
    (X : K.In h) (G : h.Ns mainGlobals mg) (eA : PySem.W.nsIn K mainGlobals "NoLetter" = some (some (.ref C))) (eX : K.lookup C = some (excClassObj nm q C N bs (bmL L) true sn sub ab col dd x0 x1 x2 x3 x5 "ValueError.__new__"))
    (eS : PySem.W.findIn K (.ref C) "__setattr__" = some (some (.builtin "object.__setattr__"))) (eK : PySem.W.keepIn K (.ref C) = true) (ega : PySem.W.findIn K (.ref C) "__getattribute__" = some (some (.builtin "BaseException.__getattribute__")))
    (egg : PySem.W.findIn K (.ref C) "__getattr__" = some none) (ecl : PySem.W.findIn K (.ref C) "__class__" = some (some (.builtin "object.__class__"))) (eno : PySem.W.findIn K (.ref C) "k" = some none)
    (ei : PySem.W.findIn K (.ref C) "__init__" = some (some (.ref I))) (eti : PySem.W.typeIn K (.ref I) = some (.type "function"))
    (eli : K.lookup I = some ⟨ioc, iod, .func (PySem.W.fnOf "__init__" "NoLetter.__init__" (defArgs s_NoLetter___init__) (defBody s_NoLetter___init__) (defScope s_NoLetter___init__) .none ikV idc ipm ian icd ict), isl⟩) (eci : PySem.W.codeIn K icd "NoLetter.__init__" = true) (eki : PySem.W.keepIn K (.ref I) = true)
    (S : Sh K mg L) : E1 P w K mg L "NoLetter" "k" C := by
  have F := fun_mk (st := s_NoLetter___init__) eli eci eki
  have B := eb_mk eX eS eK ega egg ecl S.sp S.tk
  exact ⟨B, I, _, ⟨B.t, PySem.W.mg_of X G eA, eno, ei, eti, F.binds (ps := ["self", "k"]) fun _ _ _ _ _ _ us hl => match us, hl with | [_, _], _ => rfl, kwi1 F fun _ _ _ _ _ _ _ _ => rfl⟩, fun base => ini_NoLetter F S.l⟩
theorem ini_NotARoad {f L : Addr} {fd : FuncData} (F : Fun K "__init__" "NotARoad.__init__" s_NotARoad___init__ f fd) (TL : LoT K mg "LostError" L) : FnOk P w K mg base (L2N.CX P w) 1 f fd ["self", "u", "v"] (spIni2 K "u" "v") := by
  refine okN F sc_NotARoad___init__ (fun vs H Q E h => by obtain ⟨a, C, v, u, rfl, _⟩ := h; rfl) (fun cdv Ar outer s H vs Q E hr h => ?_)
  exact ⟨_, pss_cons (ps_expr (pe_linit TL rfl (pa_cons (pv 0) (pa_cons pe_str pa_nil)))) (pss_cons (ps_ost (pv 0) (pv 1)) (pss_one (ps_ost (pv 0) (pv 2)))), ini2_run h⟩
theorem mk_NotARoad {h : Heap} {C I N L : Addr} {nm q : Str} {bs : List Value} {sn : List Str} {sub : List Value} {ab : Bool} {col : Option Bool} {dd : Option Addr} {x0 x1 x2 x3 x5 : Option Value} {iod ian : Option Addr} {isl : Array (Option Value)} {ioc ikV idc ipm icd ict : Value}
    (X : K.In h) (G : h.Ns mainGlobals mg) (eA : PySem.W.nsIn K mainGlobals "NotARoad" = some (some (.ref C))) (eX : K.lookup C = some (excClassObj nm q C N bs (bmL L) true sn sub ab col dd x0 x1 x2 x3 x5 "ValueError.__new__"))
    (eS : PySem.W.findIn K (.ref C) "__setattr__" = some (some (.builtin "object.__setattr__"))) (eK : PySem.W.keepIn K (.ref C) = true) (ega : PySem.W.findIn K (.ref C) "__getattribute__" = some (some (.builtin "BaseException.__getattribute__")))
    (egg : PySem.W.findIn K (.ref C) "__getattr__" = some none) (ecl : PySem.W.findIn K (.ref C) "__class__" = some (some (.builtin "object.__class__"))) (eno : PySem.W.findIn K (.ref C) "u" = some none) (eng : PySem.W.findIn K (.ref C) "v" = some none)
    (ei : PySem.W.findIn K (.ref C) "__init__" = some (some (.ref I))) (eti : PySem.W.typeIn K (.ref I) = some (.type "function"))
    (eli : K.lookup I = some ⟨ioc, iod, .func (PySem.W.fnOf "__init__" "NotARoad.__init__" (defArgs s_NotARoad___init__) (defBody s_NotARoad___init__) (defScope s_NotARoad___init__) .none ikV idc ipm ian icd ict), isl⟩) (eci : PySem.W.codeIn K icd "NotARoad.__init__" = true) (eki : PySem.W.keepIn K (.ref I) = true)
    (S : Sh K mg L) : E2 P w K mg L "NotARoad" "u" "v" C := by
  have F := fun_mk (st := s_NotARoad___init__) eli eci eki
  have B := eb_mk eX eS eK ega egg ecl S.sp S.tk
  exact ⟨B, I, _, ⟨B.t, PySem.W.mg_of X G eA, eno, eng, ei, eti, F.binds (ps := ["self", "u", "v"]) fun _ _ _ _ _ _ us hl => match us, hl with | [_, _, _], _ => rfl, kwi2 F fun _ _ _ _ _ _ _ _ _ => rfl, kwi2r F fun _ _ _ _ _ _ _ _ _ => rfl, kwi2p F fun _ _ _ _ _ _ _ _ _ => rfl⟩, fun base => ini_NotARoad F S.l⟩
theorem ini_Twice {f L : Addr} {fd : FuncData} (F : Fun K "__init__" "Twice.__init__" s_Twice___init__ f fd) (TL : LoT K mg "LostError" L) : FnOk P w K mg base (L2N.CX P w) 1 f fd ["self", "house", "text"] (spIni2 K "house" "text") := by
  refine okN F sc_Twice___init__ (fun vs H Q E h => by obtain ⟨a, C, v, u, rfl, _⟩ := h; rfl) (fun cdv Ar outer s H vs Q E hr h => ?_)
  exact ⟨_, pss_cons (ps_expr (pe_linit TL rfl (pa_cons (pv 0) (pa_cons pe_str pa_nil)))) (pss_cons (ps_ost (pv 0) (pv 1)) (pss_one (ps_ost (pv 0) (pv 2)))), ini2_run h⟩
theorem mk_Twice {h : Heap} {C I N L : Addr} {nm q : Str} {bs : List Value} {sn : List Str} {sub : List Value} {ab : Bool} {col : Option Bool} {dd : Option Addr} {x0 x1 x2 x3 x5 : Option Value} {iod ian : Option Addr} {isl : Array (Option Value)} {ioc ikV idc ipm icd ict : Value}
    (X : K.In h) (G : h.Ns mainGlobals mg) (eA : PySem.W.nsIn K mainGlobals "Twice" = some (some (.ref C))) (eX : K.lookup C = some (excClassObj nm q C N bs (bmL L) true sn sub ab col dd x0 x1 x2 x3 x5 "ValueError.__new__"))
    (eS : PySem.W.findIn K (.ref C) "__setattr__" = some (some (.builtin "object.__setattr__"))) (eK : PySem.W.keepIn K (.ref C) = true) (ega : PySem.W.findIn K (.ref C) "__getattribute__" = some (some (.builtin "BaseException.__getattribute__")))
    (egg : PySem.W.findIn K (.ref C) "__getattr__" = some none) (ecl : PySem.W.findIn K (.ref C) "__class__" = some (some (.builtin "object.__class__"))) (eno : PySem.W.findIn K (.ref C) "house" = some none) (eng : PySem.W.findIn K (.ref C) "text" = some none)
    (ei : PySem.W.findIn K (.ref C) "__init__" = some (some (.ref I))) (eti : PySem.W.typeIn K (.ref I) = some (.type "function"))
    (eli : K.lookup I = some ⟨ioc, iod, .func (PySem.W.fnOf "__init__" "Twice.__init__" (defArgs s_Twice___init__) (defBody s_Twice___init__) (defScope s_Twice___init__) .none ikV idc ipm ian icd ict), isl⟩) (eci : PySem.W.codeIn K icd "Twice.__init__" = true) (eki : PySem.W.keepIn K (.ref I) = true)
    (S : Sh K mg L) : E2 P w K mg L "Twice" "house" "text" C := by
  have F := fun_mk (st := s_Twice___init__) eli eci eki
  have B := eb_mk eX eS eK ega egg ecl S.sp S.tk
  exact ⟨B, I, _, ⟨B.t, PySem.W.mg_of X G eA, eno, eng, ei, eti, F.binds (ps := ["self", "house", "text"]) fun _ _ _ _ _ _ us hl => match us, hl with | [_, _, _], _ => rfl, kwi2 F fun _ _ _ _ _ _ _ _ _ => rfl, kwi2r F fun _ _ _ _ _ _ _ _ _ => rfl, kwi2p F fun _ _ _ _ _ _ _ _ _ => rfl⟩, fun base => ini_Twice F S.l⟩
theorem ini_NothingUnderWay {f L : Addr} {fd : FuncData} (F : Fun K "__init__" "NothingUnderWay.__init__" s_NothingUnderWay___init__ f fd) (TL : LoT K mg "LostError" L) : FnOk P w K mg base (L2N.CX P w) 1 f fd ["self", "u", "v"] (spIni2 K "u" "v") := by
  refine okN F sc_NothingUnderWay___init__ (fun vs H Q E h => by obtain ⟨a, C, v, u, rfl, _⟩ := h; rfl) (fun cdv Ar outer s H vs Q E hr h => ?_)
  exact ⟨_, pss_cons (ps_expr (pe_linit TL rfl (pa_cons (pv 0) (pa_cons pe_str pa_nil)))) (pss_cons (ps_ost (pv 0) (pv 1)) (pss_one (ps_ost (pv 0) (pv 2)))), ini2_run h⟩
theorem mk_NothingUnderWay {h : Heap} {C I N L : Addr} {nm q : Str} {bs : List Value} {sn : List Str} {sub : List Value} {ab : Bool} {col : Option Bool} {dd : Option Addr} {x0 x1 x2 x3 x5 : Option Value} {iod ian : Option Addr} {isl : Array (Option Value)} {ioc ikV idc ipm icd ict : Value}
    (X : K.In h) (G : h.Ns mainGlobals mg) (eA : PySem.W.nsIn K mainGlobals "NothingUnderWay" = some (some (.ref C))) (eX : K.lookup C = some (excClassObj nm q C N bs (bmL L) true sn sub ab col dd x0 x1 x2 x3 x5 "ValueError.__new__"))
    (eS : PySem.W.findIn K (.ref C) "__setattr__" = some (some (.builtin "object.__setattr__"))) (eK : PySem.W.keepIn K (.ref C) = true) (ega : PySem.W.findIn K (.ref C) "__getattribute__" = some (some (.builtin "BaseException.__getattribute__")))
    (egg : PySem.W.findIn K (.ref C) "__getattr__" = some none) (ecl : PySem.W.findIn K (.ref C) "__class__" = some (some (.builtin "object.__class__"))) (eno : PySem.W.findIn K (.ref C) "u" = some none) (eng : PySem.W.findIn K (.ref C) "v" = some none)
    (ei : PySem.W.findIn K (.ref C) "__init__" = some (some (.ref I))) (eti : PySem.W.typeIn K (.ref I) = some (.type "function"))
    (eli : K.lookup I = some ⟨ioc, iod, .func (PySem.W.fnOf "__init__" "NothingUnderWay.__init__" (defArgs s_NothingUnderWay___init__) (defBody s_NothingUnderWay___init__) (defScope s_NothingUnderWay___init__) .none ikV idc ipm ian icd ict), isl⟩) (eci : PySem.W.codeIn K icd "NothingUnderWay.__init__" = true) (eki : PySem.W.keepIn K (.ref I) = true)
    (S : Sh K mg L) : E2 P w K mg L "NothingUnderWay" "u" "v" C := by
  have F := fun_mk (st := s_NothingUnderWay___init__) eli eci eki
  have B := eb_mk eX eS eK ega egg ecl S.sp S.tk
  exact ⟨B, I, _, ⟨B.t, PySem.W.mg_of X G eA, eno, eng, ei, eti, F.binds (ps := ["self", "u", "v"]) fun _ _ _ _ _ _ us hl => match us, hl with | [_, _, _], _ => rfl, kwi2 F fun _ _ _ _ _ _ _ _ _ => rfl, kwi2r F fun _ _ _ _ _ _ _ _ _ => rfl, kwi2p F fun _ _ _ _ _ _ _ _ _ => rfl⟩, fun base => ini_NothingUnderWay F S.l⟩
theorem ini_NotRight {f L : Addr} {fd : FuncData} (F : Fun K "__init__" "NotRight.__init__" s_NotRight___init__ f fd) (TL : LoT K mg "LostError" L) : FnOk P w K mg base (L2N.CX P w) 1 f fd ["self", "road", "lines"] (spIni2 K "road" "lines") := by
  refine okN F sc_NotRight___init__ (fun vs H Q E h => by obtain ⟨a, C, v, u, rfl, _⟩ := h; rfl) (fun cdv Ar outer s H vs Q E hr h => ?_)
  exact ⟨_, pss_cons (ps_expr (pe_linit TL rfl (pa_cons (pv 0) (pa_cons pe_str pa_nil)))) (pss_cons (ps_ost (pv 0) (pv 1)) (pss_one (ps_ost (pv 0) (pv 2)))), ini2_run h⟩
theorem mk_NotRight {h : Heap} {C I N L : Addr} {nm q : Str} {bs : List Value} {sn : List Str} {sub : List Value} {ab : Bool} {col : Option Bool} {dd : Option Addr} {x0 x1 x2 x3 x5 : Option Value} {iod ian : Option Addr} {isl : Array (Option Value)} {ioc ikV idc ipm icd ict : Value}
    (X : K.In h) (G : h.Ns mainGlobals mg) (eA : PySem.W.nsIn K mainGlobals "NotRight" = some (some (.ref C))) (eX : K.lookup C = some (excClassObj nm q C N bs (bmL L) true sn sub ab col dd x0 x1 x2 x3 x5 "ValueError.__new__"))
    (eS : PySem.W.findIn K (.ref C) "__setattr__" = some (some (.builtin "object.__setattr__"))) (eK : PySem.W.keepIn K (.ref C) = true) (ega : PySem.W.findIn K (.ref C) "__getattribute__" = some (some (.builtin "BaseException.__getattribute__")))
    (egg : PySem.W.findIn K (.ref C) "__getattr__" = some none) (ecl : PySem.W.findIn K (.ref C) "__class__" = some (some (.builtin "object.__class__"))) (eno : PySem.W.findIn K (.ref C) "road" = some none) (eng : PySem.W.findIn K (.ref C) "lines" = some none)
    (ei : PySem.W.findIn K (.ref C) "__init__" = some (some (.ref I))) (eti : PySem.W.typeIn K (.ref I) = some (.type "function"))
    (eli : K.lookup I = some ⟨ioc, iod, .func (PySem.W.fnOf "__init__" "NotRight.__init__" (defArgs s_NotRight___init__) (defBody s_NotRight___init__) (defScope s_NotRight___init__) .none ikV idc ipm ian icd ict), isl⟩) (eci : PySem.W.codeIn K icd "NotRight.__init__" = true) (eki : PySem.W.keepIn K (.ref I) = true)
    (S : Sh K mg L) : E2 P w K mg L "NotRight" "road" "lines" C := by
  have F := fun_mk (st := s_NotRight___init__) eli eci eki
  have B := eb_mk eX eS eK ega egg ecl S.sp S.tk
  exact ⟨B, I, _, ⟨B.t, PySem.W.mg_of X G eA, eno, eng, ei, eti, F.binds (ps := ["self", "road", "lines"]) fun _ _ _ _ _ _ us hl => match us, hl with | [_, _, _], _ => rfl, kwi2 F fun _ _ _ _ _ _ _ _ _ => rfl, kwi2r F fun _ _ _ _ _ _ _ _ _ => rfl, kwi2p F fun _ _ _ _ _ _ _ _ _ => rfl⟩, fun base => ini_NotRight F S.l⟩
theorem fa_nil {α : Type} {Q : α → Prop} : ∀ x ∈ ([] : List α), Q x := fun _ h => nomatch h
theorem fa_cons {α : Type} {Q : α → Prop} {a : α} {l : List α} (h : Q a) (h' : ∀ x ∈ l, Q x) : ∀ x ∈ a :: l, Q x := fun x hx => by
  rcases List.mem_cons.mp hx with z | z
  · rw [z]; exact h
  · exact h' x z
theorem all_mk {mg : Str → Option Value} {h : Heap} {fa : Addr} (X : K.In h) (G : h.Ns mainGlobals mg) (hfa : mg "law" = some (.ref fa))
    {L : Addr}
    {C0 C1 C2 C3 C4 C5 C6 C7 C8 C9 C10 C11 C12 C13 C14 C15 C16 C17 C18 C19 C20 C21 C22 C23 C24 C25 C26 C27 C28 C29 C30 C31 C32 C33 C34 C35 C36 C37 : Addr}
    {A0 : Addr} {od0 an0 : Option Addr} {sl0 : Array (Option Value)} {oc0 kV0 dc0 pm0 cd0 ct0 : Value}
    {A1 : Addr} {od1 an1 : Option Addr} {sl1 : Array (Option Value)} {oc1 kV1 dc1 pm1 cd1 ct1 : Value}
    {A2 : Addr} {od2 an2 : Option Addr} {sl2 : Array (Option Value)} {oc2 kV2 dc2 pm2 cd2 ct2 : Value}
    {A3 : Addr} {od3 an3 : Option Addr} {sl3 : Array (Option Value)} {oc3 kV3 dc3 pm3 cd3 ct3 : Value}
    {A4 : Addr} {od4 an4 : Option Addr} {sl4 : Array (Option Value)} {oc4 kV4 dc4 pm4 cd4 ct4 : Value}
    {A5 : Addr} {od5 an5 : Option Addr} {sl5 : Array (Option Value)} {oc5 kV5 dc5 pm5 cd5 ct5 : Value}
    {A6 : Addr} {od6 an6 : Option Addr} {sl6 : Array (Option Value)} {oc6 kV6 dc6 pm6 cd6 ct6 : Value}
    {A7 : Addr} {od7 an7 : Option Addr} {sl7 : Array (Option Value)} {oc7 kV7 dc7 pm7 cd7 ct7 : Value}
    {A8 : Addr} {od8 an8 : Option Addr} {sl8 : Array (Option Value)} {oc8 kV8 dc8 pm8 cd8 ct8 : Value}
    {A9 : Addr} {od9 an9 : Option Addr} {sl9 : Array (Option Value)} {oc9 kV9 dc9 pm9 cd9 ct9 : Value}
    {A10 : Addr} {od10 an10 : Option Addr} {sl10 : Array (Option Value)} {oc10 kV10 dc10 pm10 cd10 ct10 : Value}
    {A11 : Addr} {od11 an11 : Option Addr} {sl11 : Array (Option Value)} {oc11 kV11 dc11 pm11 cd11 ct11 : Value}
    {A12 : Addr} {od12 an12 : Option Addr} {sl12 : Array (Option Value)} {oc12 kV12 dc12 pm12 cd12 ct12 : Value}
    {A13 : Addr} {od13 an13 : Option Addr} {sl13 : Array (Option Value)} {oc13 kV13 dc13 pm13 cd13 ct13 : Value}
    {A14 : Addr} {od14 an14 : Option Addr} {sl14 : Array (Option Value)} {oc14 kV14 dc14 pm14 cd14 ct14 : Value}
    {A15 : Addr} {od15 an15 : Option Addr} {sl15 : Array (Option Value)} {oc15 kV15 dc15 pm15 cd15 ct15 : Value}
    {A16 : Addr} {od16 an16 : Option Addr} {sl16 : Array (Option Value)} {oc16 kV16 dc16 pm16 cd16 ct16 : Value}
    (eL : PySem.W.nsIn K mainGlobals "LostError" = some (some (.ref L)))
    (lcs : PySem.W.isClsIn K L = true)
    (lsg : PySem.W.specialIn K (.ref L) "__getattribute__" = some (some (.builtin "type.__getattribute__")))
    (ltp : PySem.W.typeIn K (.ref L) = some (.type "type"))
    (lrd : PySem.W.readsIn K L (.type "type") = true)
    (lfc : PySem.W.findCls K (.ref L) (.type "type") "__init__" = some (.val (.builtin "ValueError.__init__")))
    (lex : PySem.W.subIn K (.ref L) (.type "BaseException") = some true)
    (csp : PySem.W.specialIn K (.builtin "object.__class__") "__get__" = some (some (.builtin "getset_descriptor.__get__")))
    (ctk : PySem.W.takesIn K (.builtin "object.__class__") = some true)
    (a0 : PySem.W.nsIn K mainGlobals "_law_cell" = some (some (.ref A0)))
    (l0 : K.lookup A0 = some ⟨oc0, od0, .func (PySem.W.fnOf "_law_cell" "_law_cell" (defArgs s__law_cell) (defBody s__law_cell) (defScope s__law_cell) .none kV0 dc0 pm0 an0 cd0 ct0), sl0⟩)
    (c0 : PySem.W.codeIn K cd0 "_law_cell" = true)
    (k0 : PySem.W.keepIn K (.ref A0) = true)
    (a1 : PySem.W.nsIn K mainGlobals "_law_box" = some (some (.ref A1)))
    (l1 : K.lookup A1 = some ⟨oc1, od1, .func (PySem.W.fnOf "_law_box" "_law_box" (defArgs s__law_box) (defBody s__law_box) (defScope s__law_box) .none kV1 dc1 pm1 an1 cd1 ct1), sl1⟩)
    (c1 : PySem.W.codeIn K cd1 "_law_box" = true)
    (k1 : PySem.W.keepIn K (.ref A1) = true)
    (a2 : PySem.W.nsIn K mainGlobals "_law_take" = some (some (.ref A2)))
    (l2 : K.lookup A2 = some ⟨oc2, od2, .func (PySem.W.fnOf "_law_take" "_law_take" (defArgs s__law_take) (defBody s__law_take) (defScope s__law_take) .none kV2 dc2 pm2 an2 cd2 ct2), sl2⟩)
    (c2 : PySem.W.codeIn K cd2 "_law_take" = true)
    (k2 : PySem.W.keepIn K (.ref A2) = true)
    (a3 : PySem.W.nsIn K mainGlobals "_law_by_place" = some (some (.ref A3)))
    (l3 : K.lookup A3 = some ⟨oc3, od3, .func (PySem.W.fnOf "_law_by_place" "_law_by_place" (defArgs s__law_by_place) (defBody s__law_by_place) (defScope s__law_by_place) .none kV3 dc3 pm3 an3 cd3 ct3), sl3⟩)
    (c3 : PySem.W.codeIn K cd3 "_law_by_place" = true)
    (k3 : PySem.W.keepIn K (.ref A3) = true)
    (a4 : PySem.W.nsIn K mainGlobals "_law_by_name" = some (some (.ref A4)))
    (l4 : K.lookup A4 = some ⟨oc4, od4, .func (PySem.W.fnOf "_law_by_name" "_law_by_name" (defArgs s__law_by_name) (defBody s__law_by_name) (defScope s__law_by_name) .none kV4 dc4 pm4 an4 cd4 ct4), sl4⟩)
    (c4 : PySem.W.codeIn K cd4 "_law_by_name" = true)
    (k4 : PySem.W.keepIn K (.ref A4) = true)
    (a5 : PySem.W.nsIn K mainGlobals "_law_twos" = some (some (.ref A5)))
    (l5 : K.lookup A5 = some ⟨oc5, od5, .func (PySem.W.fnOf "_law_twos" "_law_twos" (defArgs s__law_twos) (defBody s__law_twos) (defScope s__law_twos) .none kV5 dc5 pm5 an5 cd5 ct5), sl5⟩)
    (c5 : PySem.W.codeIn K cd5 "_law_twos" = true)
    (k5 : PySem.W.keepIn K (.ref A5) = true)
    (a6 : PySem.W.nsIn K mainGlobals "_law_sorts" = some (some (.ref A6)))
    (l6 : K.lookup A6 = some ⟨oc6, od6, .func (PySem.W.fnOf "_law_sorts" "_law_sorts" (defArgs s__law_sorts) (defBody s__law_sorts) (defScope s__law_sorts) .none kV6 dc6 pm6 an6 cd6 ct6), sl6⟩)
    (c6 : PySem.W.codeIn K cd6 "_law_sorts" = true)
    (k6 : PySem.W.keepIn K (.ref A6) = true)
    (a7 : PySem.W.nsIn K mainGlobals "_law_is" = some (some (.ref A7)))
    (l7 : K.lookup A7 = some ⟨oc7, od7, .func (PySem.W.fnOf "_law_is" "_law_is" (defArgs s__law_is) (defBody s__law_is) (defScope s__law_is) .none kV7 dc7 pm7 an7 cd7 ct7), sl7⟩)
    (c7 : PySem.W.codeIn K cd7 "_law_is" = true)
    (k7 : PySem.W.keepIn K (.ref A7) = true)
    (a8 : PySem.W.nsIn K mainGlobals "_law_kept" = some (some (.ref A8)))
    (l8 : K.lookup A8 = some ⟨oc8, od8, .func (PySem.W.fnOf "_law_kept" "_law_kept" (defArgs s__law_kept) (defBody s__law_kept) (defScope s__law_kept) .none kV8 dc8 pm8 an8 cd8 ct8), sl8⟩)
    (c8 : PySem.W.codeIn K cd8 "_law_kept" = true)
    (k8 : PySem.W.keepIn K (.ref A8) = true)
    (a9 : PySem.W.nsIn K mainGlobals "_law_two_kept" = some (some (.ref A9)))
    (l9 : K.lookup A9 = some ⟨oc9, od9, .func (PySem.W.fnOf "_law_two_kept" "_law_two_kept" (defArgs s__law_two_kept) (defBody s__law_two_kept) (defScope s__law_two_kept) .none kV9 dc9 pm9 an9 cd9 ct9), sl9⟩)
    (c9 : PySem.W.codeIn K cd9 "_law_two_kept" = true)
    (k9 : PySem.W.keepIn K (.ref A9) = true)
    (a10 : PySem.W.nsIn K mainGlobals "_law_thing" = some (some (.ref A10)))
    (l10 : K.lookup A10 = some ⟨oc10, od10, .func (PySem.W.fnOf "_law_thing" "_law_thing" (defArgs s__law_thing) (defBody s__law_thing) (defScope s__law_thing) .none kV10 dc10 pm10 an10 cd10 ct10), sl10⟩)
    (c10 : PySem.W.codeIn K cd10 "_law_thing" = true)
    (k10 : PySem.W.keepIn K (.ref A10) = true)
    (a11 : PySem.W.nsIn K mainGlobals "_law_same" = some (some (.ref A11)))
    (l11 : K.lookup A11 = some ⟨oc11, od11, .func (PySem.W.fnOf "_law_same" "_law_same" (defArgs s__law_same) (defBody s__law_same) (defScope s__law_same) .none kV11 dc11 pm11 an11 cd11 ct11), sl11⟩)
    (c11 : PySem.W.codeIn K cd11 "_law_same" = true)
    (k11 : PySem.W.keepIn K (.ref A11) = true)
    (a12 : PySem.W.nsIn K mainGlobals "_law_caught" = some (some (.ref A12)))
    (l12 : K.lookup A12 = some ⟨oc12, od12, .func (PySem.W.fnOf "_law_caught" "_law_caught" (defArgs s__law_caught) (defBody s__law_caught) (defScope s__law_caught) .none kV12 dc12 pm12 an12 cd12 ct12), sl12⟩)
    (c12 : PySem.W.codeIn K cd12 "_law_caught" = true)
    (k12 : PySem.W.keepIn K (.ref A12) = true)
    (a13 : PySem.W.nsIn K mainGlobals "_law_ones_right" = some (some (.ref A13)))
    (l13 : K.lookup A13 = some ⟨oc13, od13, .func (PySem.W.fnOf "_law_ones_right" "_law_ones_right" (defArgs s__law_ones_right) (defBody s__law_ones_right) (defScope s__law_ones_right) .none kV13 dc13 pm13 an13 cd13 ct13), sl13⟩)
    (c13 : PySem.W.codeIn K cd13 "_law_ones_right" = true)
    (k13 : PySem.W.keepIn K (.ref A13) = true)
    (a14 : PySem.W.nsIn K mainGlobals "_law_twos_right" = some (some (.ref A14)))
    (l14 : K.lookup A14 = some ⟨oc14, od14, .func (PySem.W.fnOf "_law_twos_right" "_law_twos_right" (defArgs s__law_twos_right) (defBody s__law_twos_right) (defScope s__law_twos_right) .none kV14 dc14 pm14 an14 cd14 ct14), sl14⟩)
    (c14 : PySem.W.codeIn K cd14 "_law_twos_right" = true)
    (k14 : PySem.W.keepIn K (.ref A14) = true)
    (a15 : PySem.W.nsIn K mainGlobals "_law_grown_right" = some (some (.ref A15)))
    (l15 : K.lookup A15 = some ⟨oc15, od15, .func (PySem.W.fnOf "_law_grown_right" "_law_grown_right" (defArgs s__law_grown_right) (defBody s__law_grown_right) (defScope s__law_grown_right) .none kV15 dc15 pm15 an15 cd15 ct15), sl15⟩)
    (c15 : PySem.W.codeIn K cd15 "_law_grown_right" = true)
    (k15 : PySem.W.keepIn K (.ref A15) = true)
    (a16 : PySem.W.nsIn K mainGlobals "law" = some (some (.ref A16)))
    (l16 : K.lookup A16 = some ⟨oc16, od16, .func (PySem.W.fnOf "law" "law" (defArgs s_law) (defBody s_law) (defScope s_law) .none kV16 dc16 pm16 an16 cd16 ct16), sl16⟩)
    (c16 : PySem.W.codeIn K cd16 "law" = true)
    (k16 : PySem.W.keepIn K (.ref A16) = true)
    (z_isinstance : PySem.W.nsIn K mainGlobals "isinstance" = some none)
    (z_len : PySem.W.nsIn K mainGlobals "len" = some none)
    (z_int : PySem.W.nsIn K mainGlobals "int" = some none)
    (z_abs : PySem.W.nsIn K mainGlobals "abs" = some none)
    (z_sum : PySem.W.nsIn K mainGlobals "sum" = some none)
    (z_repr : PySem.W.nsIn K mainGlobals "repr" = some none)
    (z_max : PySem.W.nsIn K mainGlobals "max" = some none)
    (z_min : PySem.W.nsIn K mainGlobals "min" = some none)
    (z_range : PySem.W.nsIn K mainGlobals "range" = some none)
    (z_ValueError : PySem.W.nsIn K mainGlobals "ValueError" = some none)
    (Y0 : Sh K mg L → E1 P w K mg L "InvalidLine" "given" C0)
    (Y1 : Sh K mg L → E1 P w K mg L "InvalidText" "given" C1)
    (Y2 : Sh K mg L → E1 P w K mg L "InvalidHouses" "given" C2)
    (Y3 : Sh K mg L → E1 P w K mg L "InvalidRoads" "given" C3)
    (Y4 : Sh K mg L → E1 P w K mg L "InvalidHouse" "given" C4)
    (Y5 : Sh K mg L → E1 P w K mg L "InvalidNames" "given" C5)
    (Y6 : Sh K mg L → E1 P w K mg L "InvalidScript" "given" C6)
    (Y7 : Sh K mg L → E1 P w K mg L "InvalidFounds" "given" C7)
    (Y8 : Sh K mg L → E1 P w K mg L "InvalidCount" "given" C8)
    (Y9 : Sh K mg L → E1 P w K mg L "InvalidCounts" "given" C9)
    (Y10 : Sh K mg L → E1 P w K mg L "InvalidLater" "given" C10)
    (Y11 : Sh K mg L → E1 P w K mg L "InvalidIndex" "given" C11)
    (Y12 : Sh K mg L → E1 P w K mg L "InvalidReaders" "given" C12)
    (Y13 : Sh K mg L → E1 P w K mg L "InvalidMap" "given" C13)
    (Y14 : Sh K mg L → E1 P w K mg L "InvalidLot" "given" C14)
    (Y15 : Sh K mg L → E1 P w K mg L "InvalidSeats" "given" C15)
    (Y16 : Sh K mg L → E1 P w K mg L "InvalidName" "given" C16)
    (Y17 : Sh K mg L → E1 P w K mg L "InvalidOwns" "given" C17)
    (Y18 : Sh K mg L → E1 P w K mg L "InvalidLines" "given" C18)
    (Y19 : Sh K mg L → E1 P w K mg L "InvalidWriters" "given" C19)
    (Y20 : Sh K mg L → E1 P w K mg L "InvalidRows" "given" C20)
    (Y21 : Sh K mg L → E1 P w K mg L "NotJoined" "house" C21)
    (Y22 : Sh K mg L → E1 P w K mg L "Stopped" "house" C22)
    (Y23 : Sh K mg L → E1 P w K mg L "Refused" "at" C23)
    (Y24 : Sh K mg L → E1 P w K mg L "Ringed" "names" C24)
    (Y25 : Sh K mg L → E1 P w K mg L "NoRow" "names" C25)
    (Y26 : Sh K mg L → E1 P w K mg L "NotTwo" "many" C26)
    (Y27 : Sh K mg L → E1 P w K mg L "Nobodys" "picture" C27)
    (Y28 : Sh K mg L → E1 P w K mg L "Crossed" "cross" C28)
    (Y29 : Sh K mg L → E1 P w K mg L "NotWhole" "reader" C29)
    (Y30 : Sh K mg L → E1 P w K mg L "Fitless" "picture" C30)
    (Y31 : Sh K mg L → E1 P w K mg L "Clash" "reader" C31)
    (Y32 : Sh K mg L → E1 P w K mg L "TooMany" "count" C32)
    (Y33 : Sh K mg L → E1 P w K mg L "NoLetter" "k" C33)
    (Y34 : Sh K mg L → E2 P w K mg L "NotARoad" "u" "v" C34)
    (Y35 : Sh K mg L → E2 P w K mg L "Twice" "house" "text" C35)
    (Y36 : Sh K mg L → E2 P w K mg L "NothingUnderWay" "u" "v" C36)
    (Y37 : Sh K mg L → E2 P w K mg L "NotRight" "road" "lines" C37)
    (nd : (L :: [C0, C1, C2, C3, C4, C5, C6, C7, C8, C9, C10, C11, C12, C13, C14, C15, C16, C17, C18, C19, C20, C21, C22, C23, C24, C25, C26, C27, C28, C29, C30, C31, C32, C33, C34, C35, C36, C37]).Nodup) :
    ∃ fd : FuncData, (∀ (s : Shared) (u : Value), BindsTo s fd ⟨[u], []⟩ [("script", u)]) ∧ ∀ base : Heap, K.In base → base.Ns mainGlobals mg → FnG P w K mg base (L2N.CX P w) 5 fa fd ["script"] (spD K (pm_law K)) := by
  have e := hfa.symm.trans (PySem.W.mg_of X G a16)
  cases e
  have T : Txt K mg := { b_isinstance := PySem.W.mg_none_of X G z_isinstance, b_len := PySem.W.mg_none_of X G z_len, b_int := PySem.W.mg_none_of X G z_int, b_abs := PySem.W.mg_none_of X G z_abs, b_sum := PySem.W.mg_none_of X G z_sum, b_repr := PySem.W.mg_none_of X G z_repr, b_max := PySem.W.mg_none_of X G z_max, b_min := PySem.W.mg_none_of X G z_min, b_range := PySem.W.mg_none_of X G z_range, b_ValueError := PySem.W.mg_none_of X G z_ValueError }
  have TL : LoT K mg "LostError" L := ⟨PySem.W.mg_of X G eL, lsg, ltp, lrd, lfc⟩
  have M_LostError := PySem.W.mg_of X G eL
  have S : Sh K mg L := ⟨TL, csp, ctk⟩
  have El : EL K L := ⟨lcs, ltp, lex⟩
  obtain ⟨B0, I0, fI0, E_InvalidLine, J_InvalidLine⟩ := Y0 S
  obtain ⟨B1, I1, fI1, E_InvalidText, J_InvalidText⟩ := Y1 S
  obtain ⟨B2, I2, fI2, E_InvalidHouses, J_InvalidHouses⟩ := Y2 S
  obtain ⟨B3, I3, fI3, E_InvalidRoads, J_InvalidRoads⟩ := Y3 S
  obtain ⟨B4, I4, fI4, E_InvalidHouse, J_InvalidHouse⟩ := Y4 S
  obtain ⟨B5, I5, fI5, E_InvalidNames, J_InvalidNames⟩ := Y5 S
  obtain ⟨B6, I6, fI6, E_InvalidScript, J_InvalidScript⟩ := Y6 S
  obtain ⟨B7, I7, fI7, E_InvalidFounds, J_InvalidFounds⟩ := Y7 S
  obtain ⟨B8, I8, fI8, E_InvalidCount, J_InvalidCount⟩ := Y8 S
  obtain ⟨B9, I9, fI9, E_InvalidCounts, J_InvalidCounts⟩ := Y9 S
  obtain ⟨B10, I10, fI10, E_InvalidLater, J_InvalidLater⟩ := Y10 S
  obtain ⟨B11, I11, fI11, E_InvalidIndex, J_InvalidIndex⟩ := Y11 S
  obtain ⟨B12, I12, fI12, E_InvalidReaders, J_InvalidReaders⟩ := Y12 S
  obtain ⟨B13, I13, fI13, E_InvalidMap, J_InvalidMap⟩ := Y13 S
  obtain ⟨B14, I14, fI14, E_InvalidLot, J_InvalidLot⟩ := Y14 S
  obtain ⟨B15, I15, fI15, E_InvalidSeats, J_InvalidSeats⟩ := Y15 S
  obtain ⟨B16, I16, fI16, E_InvalidName, J_InvalidName⟩ := Y16 S
  obtain ⟨B17, I17, fI17, E_InvalidOwns, J_InvalidOwns⟩ := Y17 S
  obtain ⟨B18, I18, fI18, E_InvalidLines, J_InvalidLines⟩ := Y18 S
  obtain ⟨B19, I19, fI19, E_InvalidWriters, J_InvalidWriters⟩ := Y19 S
  obtain ⟨B20, I20, fI20, E_InvalidRows, J_InvalidRows⟩ := Y20 S
  obtain ⟨B21, I21, fI21, E_NotJoined, J_NotJoined⟩ := Y21 S
  obtain ⟨B22, I22, fI22, E_Stopped, J_Stopped⟩ := Y22 S
  obtain ⟨B23, I23, fI23, E_Refused, J_Refused⟩ := Y23 S
  obtain ⟨B24, I24, fI24, E_Ringed, J_Ringed⟩ := Y24 S
  obtain ⟨B25, I25, fI25, E_NoRow, J_NoRow⟩ := Y25 S
  obtain ⟨B26, I26, fI26, E_NotTwo, J_NotTwo⟩ := Y26 S
  obtain ⟨B27, I27, fI27, E_Nobodys, J_Nobodys⟩ := Y27 S
  obtain ⟨B28, I28, fI28, E_Crossed, J_Crossed⟩ := Y28 S
  obtain ⟨B29, I29, fI29, E_NotWhole, J_NotWhole⟩ := Y29 S
  obtain ⟨B30, I30, fI30, E_Fitless, J_Fitless⟩ := Y30 S
  obtain ⟨B31, I31, fI31, E_Clash, J_Clash⟩ := Y31 S
  obtain ⟨B32, I32, fI32, E_TooMany, J_TooMany⟩ := Y32 S
  obtain ⟨B33, I33, fI33, E_NoLetter, J_NoLetter⟩ := Y33 S
  obtain ⟨B34, I34, fI34, E_NotARoad, J_NotARoad⟩ := Y34 S
  obtain ⟨B35, I35, fI35, E_Twice, J_Twice⟩ := Y35 S
  obtain ⟨B36, I36, fI36, E_NothingUnderWay, J_NothingUnderWay⟩ := Y36 S
  obtain ⟨B37, I37, fI37, E_NotRight, J_NotRight⟩ := Y37 S
  obtain ⟨nL, ndC⟩ := List.nodup_cons.mp nd
  have all : ∀ D ∈ ([C0, C1, C2, C3, C4, C5, C6, C7, C8, C9, C10, C11, C12, C13, C14, C15, C16, C17, C18, C19, C20, C21, C22, C23, C24, C25, C26, C27, C28, C29, C30, C31, C32, C33, C34, C35, C36, C37] : List Addr), EB K L D := (fa_cons B0 (fa_cons B1 (fa_cons B2 (fa_cons B3 (fa_cons B4 (fa_cons B5 (fa_cons B6 (fa_cons B7 (fa_cons B8 (fa_cons B9 (fa_cons B10 (fa_cons B11 (fa_cons B12 (fa_cons B13 (fa_cons B14 (fa_cons B15 (fa_cons B16 (fa_cons B17 (fa_cons B18 (fa_cons B19 (fa_cons B20 (fa_cons B21 (fa_cons B22 (fa_cons B23 (fa_cons B24 (fa_cons B25 (fa_cons B26 (fa_cons B27 (fa_cons B28 (fa_cons B29 (fa_cons B30 (fa_cons B31 (fa_cons B32 (fa_cons B33 (fa_cons B34 (fa_cons B35 (fa_cons B36 (fa_cons B37 fa_nil))))))))))))))))))))))))))))))))))))))
  have hne : ∀ D ∈ ([C0, C1, C2, C3, C4, C5, C6, C7, C8, C9, C10, C11, C12, C13, C14, C15, C16, C17, C18, C19, C20, C21, C22, C23, C24, C25, C26, C27, C28, C29, C30, C31, C32, C33, C34, C35, C36, C37] : List Addr), D ≠ L := fun D hD e => nL (e ▸ hD)
  have hX : ∀ D ∈ ([C0, C1, C2, C3, C4, C5, C6, C7, C8, C9, C10, C11, C12, C13, C14, C15, C16, C17, C18, C19, C20, C21, C22, C23, C24, C25, C26, C27, C28, C29, C30, C31, C32, C33, C34, C35, C36, C37] : List Addr), PySem.W.exmOne K (.ref D) (.ref L) = some true := fun D hD => (all D hD).exm El
  have hC : Cls K L [C0, C1, C2, C3, C4, C5, C6, C7, C8, C9, C10, C11, C12, C13, C14, C15, C16, C17, C18, C19, C20, C21, C22, C23, C24, C25, C26, C27, C28, C29, C30, C31, C32, C33, C34, C35, C36, C37] := ⟨fun D hD => (all D hD).t, fun D hD C hC => (all D hD).one (all C hC) (hne C hC), fun D hD => (all D hD).base El (hne D hD), fun D hD => (all D hD).ve, ndC, fun C hC => by
    rcases List.mem_cons.mp hC with z | z
    · subst z; exact none_of lcs ltp
    · exact none_of (all C z).cs (all C z).ty⟩
  have kL : KitNo K L := hC.no L List.mem_cons_self
  have k1C : KitNo K C1 := none_of B1.cs B1.ty
  have y1C : PySem.W.kitOne K (.ref C1) (.ref C1) = some true := one_self
  have nos : ∀ p ∈ ([(C0, Str.ofString "given"), (C1, Str.ofString "given"), (C2, Str.ofString "given"), (C3, Str.ofString "given"), (C4, Str.ofString "given"), (C5, Str.ofString "given"), (C6, Str.ofString "given"), (C7, Str.ofString "given"), (C8, Str.ofString "given"), (C9, Str.ofString "given"), (C10, Str.ofString "given"), (C11, Str.ofString "given"), (C12, Str.ofString "given"), (C13, Str.ofString "given"), (C14, Str.ofString "given"), (C15, Str.ofString "given"), (C16, Str.ofString "given"), (C17, Str.ofString "given"), (C18, Str.ofString "given"), (C19, Str.ofString "given"), (C20, Str.ofString "given"), (C21, Str.ofString "house"), (C22, Str.ofString "house"), (C23, Str.ofString "at"), (C24, Str.ofString "names"), (C25, Str.ofString "names"), (C26, Str.ofString "many"), (C27, Str.ofString "picture"), (C28, Str.ofString "cross"), (C29, Str.ofString "reader"), (C30, Str.ofString "picture"), (C31, Str.ofString "reader"), (C32, Str.ofString "count"), (C33, Str.ofString "k")] : List (Addr × Str)), PySem.W.findIn K (.ref p.1) p.2 = some none := (fa_cons E_InvalidLine.no (fa_cons E_InvalidText.no (fa_cons E_InvalidHouses.no (fa_cons E_InvalidRoads.no (fa_cons E_InvalidHouse.no (fa_cons E_InvalidNames.no (fa_cons E_InvalidScript.no (fa_cons E_InvalidFounds.no (fa_cons E_InvalidCount.no (fa_cons E_InvalidCounts.no (fa_cons E_InvalidLater.no (fa_cons E_InvalidIndex.no (fa_cons E_InvalidReaders.no (fa_cons E_InvalidMap.no (fa_cons E_InvalidLot.no (fa_cons E_InvalidSeats.no (fa_cons E_InvalidName.no (fa_cons E_InvalidOwns.no (fa_cons E_InvalidLines.no (fa_cons E_InvalidWriters.no (fa_cons E_InvalidRows.no (fa_cons E_NotJoined.no (fa_cons E_Stopped.no (fa_cons E_Refused.no (fa_cons E_Ringed.no (fa_cons E_NoRow.no (fa_cons E_NotTwo.no (fa_cons E_Nobodys.no (fa_cons E_Crossed.no (fa_cons E_NotWhole.no (fa_cons E_Fitless.no (fa_cons E_Clash.no (fa_cons E_TooMany.no (fa_cons E_NoLetter.no fa_nil))))))))))))))))))))))))))))))))))
  have hO : Ones K [C0, C1, C2, C3, C4, C5, C6, C7, C8, C9, C10, C11, C12, C13, C14, C15, C16, C17, C18, C19, C20, C21, C22, C23, C24, C25, C26, C27, C28, C29, C30, C31, C32, C33, C34, C35, C36, C37] [C0, C1, C2, C3, C4, C5, C6, C7, C8, C9, C10, C11, C12, C13, C14, C15, C16, C17, C18, C19, C20, C21, C22, C23, C24, C25, C26, C27, C28, C29, C30, C31, C32, C33] := ⟨rfl, fun i D h => by
      have hi := (List.getElem?_eq_some_iff.mp h).1
      show ([C0, C1, C2, C3, C4, C5, C6, C7, C8, C9, C10, C11, C12, C13, C14, C15, C16, C17, C18, C19, C20, C21, C22, C23, C24, C25, C26, C27, C28, C29, C30, C31, C32, C33] ++ [C34, C35, C36, C37])[i]? = some D
      rw [List.getElem?_append_left hi]
      exact h, fun i D f h h' => by
      have hz : ([C0, C1, C2, C3, C4, C5, C6, C7, C8, C9, C10, C11, C12, C13, C14, C15, C16, C17, C18, C19, C20, C21, C22, C23, C24, C25, C26, C27, C28, C29, C30, C31, C32, C33].zip fields1)[i]? = some (D, f) := List.getElem?_zip_eq_some.mpr ⟨h, h'⟩
      exact nos (D, f) (List.mem_of_getElem? (show ([(C0, Str.ofString "given"), (C1, Str.ofString "given"), (C2, Str.ofString "given"), (C3, Str.ofString "given"), (C4, Str.ofString "given"), (C5, Str.ofString "given"), (C6, Str.ofString "given"), (C7, Str.ofString "given"), (C8, Str.ofString "given"), (C9, Str.ofString "given"), (C10, Str.ofString "given"), (C11, Str.ofString "given"), (C12, Str.ofString "given"), (C13, Str.ofString "given"), (C14, Str.ofString "given"), (C15, Str.ofString "given"), (C16, Str.ofString "given"), (C17, Str.ofString "given"), (C18, Str.ofString "given"), (C19, Str.ofString "given"), (C20, Str.ofString "given"), (C21, Str.ofString "house"), (C22, Str.ofString "house"), (C23, Str.ofString "at"), (C24, Str.ofString "names"), (C25, Str.ofString "names"), (C26, Str.ofString "many"), (C27, Str.ofString "picture"), (C28, Str.ofString "cross"), (C29, Str.ofString "reader"), (C30, Str.ofString "picture"), (C31, Str.ofString "reader"), (C32, Str.ofString "count"), (C33, Str.ofString "k")] : List (Addr × Str))[i]? = some (D, f) from hz))⟩
  have hT : Twos K [C0, C1, C2, C3, C4, C5, C6, C7, C8, C9, C10, C11, C12, C13, C14, C15, C16, C17, C18, C19, C20, C21, C22, C23, C24, C25, C26, C27, C28, C29, C30, C31, C32, C33, C34, C35, C36, C37] C34 C35 C36 C37 := ⟨fun i E h => by
      have hi : i < 4 := (List.getElem?_eq_some_iff.mp h).1
      have h4 : i = 0 ∨ i = 1 ∨ i = 2 ∨ i = 3 := by omega
      rcases h4 with z | z | z | z <;> subst z <;> exact h, fun i E f g h h' => by
      have hi : i < 4 := (List.getElem?_eq_some_iff.mp h).1
      have h4 : i = 0 ∨ i = 1 ∨ i = 2 ∨ i = 3 := by omega
      rcases h4 with z | z | z | z <;> subst z
      · obtain rfl : C34 = E := Option.some.inj h
        obtain ⟨rfl, rfl⟩ := Prod.mk.inj (Option.some.inj (show some (Str.ofString "u", Str.ofString "v") = some (f, g) from h'))
        exact ⟨E_NotARoad.no, E_NotARoad.ng⟩
      · obtain rfl : C35 = E := Option.some.inj h
        obtain ⟨rfl, rfl⟩ := Prod.mk.inj (Option.some.inj (show some (Str.ofString "house", Str.ofString "text") = some (f, g) from h'))
        exact ⟨E_Twice.no, E_Twice.ng⟩
      · obtain rfl : C36 = E := Option.some.inj h
        obtain ⟨rfl, rfl⟩ := Prod.mk.inj (Option.some.inj (show some (Str.ofString "u", Str.ofString "v") = some (f, g) from h'))
        exact ⟨E_NothingUnderWay.no, E_NothingUnderWay.ng⟩
      · obtain rfl : C37 = E := Option.some.inj h
        obtain ⟨rfl, rfl⟩ := Prod.mk.inj (Option.some.inj (show some (Str.ofString "road", Str.ofString "lines") = some (f, g) from h'))
        exact ⟨E_NotRight.no, E_NotRight.ng⟩⟩
  have D__law_cell : Df K mg "_law_cell" A0 := ⟨PySem.W.mg_of X G a0, k0⟩
  have F__law_cell := fun_mk (st := s__law_cell) l0 c0 k0
  have b__law_cell := F__law_cell.binds (ps := ["script", "k"]) fun _ _ _ _ _ _ us hl => match us, hl with | [_, _], _ => rfl
  have D__law_box : Df K mg "_law_box" A1 := ⟨PySem.W.mg_of X G a1, k1⟩
  have F__law_box := fun_mk (st := s__law_box) l1 c1 k1
  have b__law_box := F__law_box.binds (ps := ["great"]) fun _ _ _ _ _ _ us hl => match us, hl with | [_], _ => rfl
  have D__law_take : Df K mg "_law_take" A2 := ⟨PySem.W.mg_of X G a2, k2⟩
  have F__law_take := fun_mk (st := s__law_take) l2 c2 k2
  have b__law_take := F__law_take.binds (ps := ["box", "many"]) fun _ _ _ _ _ _ us hl => match us, hl with | [_, _], _ => rfl
  have D__law_by_place : Df K mg "_law_by_place" A3 := ⟨PySem.W.mg_of X G a3, k3⟩
  have F__law_by_place := fun_mk (st := s__law_by_place) l3 c3 k3
  have b__law_by_place := F__law_by_place.binds (ps := ["thing"]) fun _ _ _ _ _ _ us hl => match us, hl with | [_], _ => rfl
  have D__law_by_name : Df K mg "_law_by_name" A4 := ⟨PySem.W.mg_of X G a4, k4⟩
  have F__law_by_name := fun_mk (st := s__law_by_name) l4 c4 k4
  have b__law_by_name := F__law_by_name.binds (ps := ["thing"]) fun _ _ _ _ _ _ us hl => match us, hl with | [_], _ => rfl
  have D__law_twos : Df K mg "_law_twos" A5 := ⟨PySem.W.mg_of X G a5, k5⟩
  have F__law_twos := fun_mk (st := s__law_twos) l5 c5 k5
  have b__law_twos := F__law_twos.binds (ps := ["one", "other", "way"]) fun _ _ _ _ _ _ us hl => match us, hl with | [_, _, _], _ => rfl
  have D__law_sorts : Df K mg "_law_sorts" A6 := ⟨PySem.W.mg_of X G a6, k6⟩
  have F__law_sorts := fun_mk (st := s__law_sorts) l6 c6 k6
  have b__law_sorts := F__law_sorts.binds (ps := ["e"]) fun _ _ _ _ _ _ us hl => match us, hl with | [_], _ => rfl
  have D__law_is : Df K mg "_law_is" A7 := ⟨PySem.W.mg_of X G a7, k7⟩
  have F__law_is := fun_mk (st := s__law_is) l7 c7 k7
  have b__law_is := F__law_is.binds (ps := ["e", "spot"]) fun _ _ _ _ _ _ us hl => match us, hl with | [_, _], _ => rfl
  have D__law_kept : Df K mg "_law_kept" A8 := ⟨PySem.W.mg_of X G a8, k8⟩
  have F__law_kept := fun_mk (st := s__law_kept) l8 c8 k8
  have b__law_kept := F__law_kept.binds (ps := ["e"]) fun _ _ _ _ _ _ us hl => match us, hl with | [_], _ => rfl
  have D__law_two_kept : Df K mg "_law_two_kept" A9 := ⟨PySem.W.mg_of X G a9, k9⟩
  have F__law_two_kept := fun_mk (st := s__law_two_kept) l9 c9 k9
  have b__law_two_kept := F__law_two_kept.binds (ps := ["e"]) fun _ _ _ _ _ _ us hl => match us, hl with | [_], _ => rfl
  have D__law_thing : Df K mg "_law_thing" A10 := ⟨PySem.W.mg_of X G a10, k10⟩
  have F__law_thing := fun_mk (st := s__law_thing) l10 c10 k10
  have b__law_thing := F__law_thing.binds (ps := ["box"]) fun _ _ _ _ _ _ us hl => match us, hl with | [_], _ => rfl
  have D__law_same : Df K mg "_law_same" A11 := ⟨PySem.W.mg_of X G a11, k11⟩
  have F__law_same := fun_mk (st := s__law_same) l11 c11 k11
  have b__law_same := F__law_same.binds (ps := ["kept", "thing"]) fun _ _ _ _ _ _ us hl => match us, hl with | [_, _], _ => rfl
  have D__law_caught : Df K mg "_law_caught" A12 := ⟨PySem.W.mg_of X G a12, k12⟩
  have F__law_caught := fun_mk (st := s__law_caught) l12 c12 k12
  have b__law_caught := F__law_caught.binds (ps := ["box", "thing", "more"]) fun _ _ _ _ _ _ us hl => match us, hl with | [_, _, _], _ => rfl
  have D__law_ones_right : Df K mg "_law_ones_right" A13 := ⟨PySem.W.mg_of X G a13, k13⟩
  have F__law_ones_right := fun_mk (st := s__law_ones_right) l13 c13 k13
  have b__law_ones_right := F__law_ones_right.binds (ps := ["first", "last"]) fun _ _ _ _ _ _ us hl => match us, hl with | [_, _], _ => rfl
  have D__law_twos_right : Df K mg "_law_twos_right" A14 := ⟨PySem.W.mg_of X G a14, k14⟩
  have F__law_twos_right := fun_mk (st := s__law_twos_right) l14 c14 k14
  have b__law_twos_right := F__law_twos_right.binds (ps := ["first", "last"]) fun _ _ _ _ _ _ us hl => match us, hl with | [_, _], _ => rfl
  have D__law_grown_right : Df K mg "_law_grown_right" A15 := ⟨PySem.W.mg_of X G a15, k15⟩
  have F__law_grown_right := fun_mk (st := s__law_grown_right) l15 c15 k15
  have b__law_grown_right := F__law_grown_right.binds (ps := ["box"]) fun _ _ _ _ _ _ us hl => match us, hl with | [_], _ => rfl
  have F_law := fun_mk (st := s_law) l16 c16 k16
  have b_law := F_law.binds (ps := ["script"]) fun _ _ _ _ _ _ us hl => match us, hl with | [_], _ => rfl
  refine ⟨PySem.W.fnOf "law" "law" (defArgs s_law) (defBody s_law) (defScope s_law) .none kV16 dc16 pm16 an16 cd16 ct16, fun s v => .of_eq rfl, fun base _ _ => ?_⟩
  have I_InvalidLine := J_InvalidLine base
  have I_InvalidText := J_InvalidText base
  have I_InvalidHouses := J_InvalidHouses base
  have I_InvalidRoads := J_InvalidRoads base
  have I_InvalidHouse := J_InvalidHouse base
  have I_InvalidNames := J_InvalidNames base
  have I_InvalidScript := J_InvalidScript base
  have I_InvalidFounds := J_InvalidFounds base
  have I_InvalidCount := J_InvalidCount base
  have I_InvalidCounts := J_InvalidCounts base
  have I_InvalidLater := J_InvalidLater base
  have I_InvalidIndex := J_InvalidIndex base
  have I_InvalidReaders := J_InvalidReaders base
  have I_InvalidMap := J_InvalidMap base
  have I_InvalidLot := J_InvalidLot base
  have I_InvalidSeats := J_InvalidSeats base
  have I_InvalidName := J_InvalidName base
  have I_InvalidOwns := J_InvalidOwns base
  have I_InvalidLines := J_InvalidLines base
  have I_InvalidWriters := J_InvalidWriters base
  have I_InvalidRows := J_InvalidRows base
  have I_NotJoined := J_NotJoined base
  have I_Stopped := J_Stopped base
  have I_Refused := J_Refused base
  have I_Ringed := J_Ringed base
  have I_NoRow := J_NoRow base
  have I_NotTwo := J_NotTwo base
  have I_Nobodys := J_Nobodys base
  have I_Crossed := J_Crossed base
  have I_NotWhole := J_NotWhole base
  have I_Fitless := J_Fitless base
  have I_Clash := J_Clash base
  have I_TooMany := J_TooMany base
  have I_NoLetter := J_NoLetter base
  have I_NotARoad := J_NotARoad base
  have I_Twice := J_Twice base
  have I_NothingUnderWay := J_NothingUnderWay base
  have I_NotRight := J_NotRight base
  have G__law_take := ok_take (P := P) (w := w) (base := base) F__law_take T
  have G__law_box := ok_box (P := P) (w := w) (base := base) F__law_box T
  have G__law_cell := ok_cell (P := P) (w := w) (base := base) F__law_cell T
  have G__law_by_place := ok_by_place (P := P) (w := w) (base := base) F__law_by_place T E_InvalidLine I_InvalidLine E_InvalidText I_InvalidText E_InvalidHouses I_InvalidHouses E_InvalidRoads I_InvalidRoads E_InvalidHouse I_InvalidHouse E_InvalidNames I_InvalidNames E_InvalidScript I_InvalidScript E_InvalidFounds I_InvalidFounds E_InvalidCount I_InvalidCount E_InvalidCounts I_InvalidCounts E_InvalidLater I_InvalidLater E_InvalidIndex I_InvalidIndex E_InvalidReaders I_InvalidReaders E_InvalidMap I_InvalidMap E_InvalidLot I_InvalidLot E_InvalidSeats I_InvalidSeats E_InvalidName I_InvalidName E_InvalidOwns I_InvalidOwns E_InvalidLines I_InvalidLines E_InvalidWriters I_InvalidWriters E_InvalidRows I_InvalidRows E_NotJoined I_NotJoined E_Stopped I_Stopped E_Refused I_Refused E_Ringed I_Ringed E_NoRow I_NoRow E_NotTwo I_NotTwo E_Nobodys I_Nobodys E_Crossed I_Crossed E_NotWhole I_NotWhole E_Fitless I_Fitless E_Clash I_Clash E_TooMany I_TooMany E_NoLetter I_NoLetter
  have G__law_by_name := ok_by_name (P := P) (w := w) (base := base) F__law_by_name T E_InvalidLine I_InvalidLine E_InvalidText I_InvalidText E_InvalidHouses I_InvalidHouses E_InvalidRoads I_InvalidRoads E_InvalidHouse I_InvalidHouse E_InvalidNames I_InvalidNames E_InvalidScript I_InvalidScript E_InvalidFounds I_InvalidFounds E_InvalidCount I_InvalidCount E_InvalidCounts I_InvalidCounts E_InvalidLater I_InvalidLater E_InvalidIndex I_InvalidIndex E_InvalidReaders I_InvalidReaders E_InvalidMap I_InvalidMap E_InvalidLot I_InvalidLot E_InvalidSeats I_InvalidSeats E_InvalidName I_InvalidName E_InvalidOwns I_InvalidOwns E_InvalidLines I_InvalidLines E_InvalidWriters I_InvalidWriters E_InvalidRows I_InvalidRows E_NotJoined I_NotJoined E_Stopped I_Stopped E_Refused I_Refused E_Ringed I_Ringed E_NoRow I_NoRow E_NotTwo I_NotTwo E_Nobodys I_Nobodys E_Crossed I_Crossed E_NotWhole I_NotWhole E_Fitless I_Fitless E_Clash I_Clash E_TooMany I_TooMany E_NoLetter I_NoLetter
  have G__law_twos := ok_twos (P := P) (w := w) (base := base) F__law_twos T E_NotARoad I_NotARoad E_Twice I_Twice E_NothingUnderWay I_NothingUnderWay E_NotRight I_NotRight
  have G__law_sorts := ok_sorts (P := P) (w := w) (base := base) E_InvalidLine.m E_InvalidText.m E_InvalidHouses.m E_InvalidRoads.m E_InvalidHouse.m E_InvalidNames.m E_InvalidScript.m E_InvalidFounds.m E_InvalidCount.m E_InvalidCounts.m E_InvalidLater.m E_InvalidIndex.m E_InvalidReaders.m E_InvalidMap.m E_InvalidLot.m E_InvalidSeats.m E_InvalidName.m E_InvalidOwns.m E_InvalidLines.m E_InvalidWriters.m E_InvalidRows.m E_NotJoined.m E_Stopped.m E_Refused.m E_Ringed.m E_NoRow.m E_NotTwo.m E_Nobodys.m E_Crossed.m E_NotWhole.m E_Fitless.m E_Clash.m E_TooMany.m E_NoLetter.m E_NotARoad.m E_Twice.m E_NothingUnderWay.m E_NotRight.m M_LostError hC F__law_sorts T
  have HE__law_sorts := okE_sorts (P := P) (w := w) (base := base) E_InvalidLine.m E_InvalidText.m E_InvalidHouses.m E_InvalidRoads.m E_InvalidHouse.m E_InvalidNames.m E_InvalidScript.m E_InvalidFounds.m E_InvalidCount.m E_InvalidCounts.m E_InvalidLater.m E_InvalidIndex.m E_InvalidReaders.m E_InvalidMap.m E_InvalidLot.m E_InvalidSeats.m E_InvalidName.m E_InvalidOwns.m E_InvalidLines.m E_InvalidWriters.m E_InvalidRows.m E_NotJoined.m E_Stopped.m E_Refused.m E_Ringed.m E_NoRow.m E_NotTwo.m E_Nobodys.m E_Crossed.m E_NotWhole.m E_Fitless.m E_Clash.m E_TooMany.m E_NoLetter.m E_NotARoad.m E_Twice.m E_NothingUnderWay.m E_NotRight.m M_LostError hC F__law_sorts T
  have G__law_is := ok_is (P := P) (w := w) (base := base) M_LostError hC rfl D__law_sorts G__law_sorts b__law_sorts F__law_is T
  have HE__law_is := okE_is (P := P) (w := w) (base := base) M_LostError hC rfl D__law_sorts HE__law_sorts b__law_sorts F__law_is T
  have G__law_kept := ok_kept (P := P) (w := w) (base := base) E_InvalidLine.m E_InvalidText.m E_InvalidHouses.m E_InvalidRoads.m E_InvalidHouse.m E_InvalidNames.m E_InvalidScript.m E_InvalidFounds.m E_InvalidCount.m E_InvalidCounts.m E_InvalidLater.m E_InvalidIndex.m E_InvalidReaders.m E_InvalidMap.m E_InvalidLot.m E_InvalidSeats.m E_InvalidName.m E_InvalidOwns.m E_InvalidLines.m E_InvalidWriters.m E_InvalidRows.m E_NotJoined.m E_Stopped.m E_Refused.m E_Ringed.m E_NoRow.m E_NotTwo.m E_Nobodys.m E_Crossed.m E_NotWhole.m E_Fitless.m E_Clash.m E_TooMany.m E_NoLetter.m E_NotARoad.m E_Twice.m E_NothingUnderWay.m E_NotRight.m M_LostError hC F__law_kept T
  have HE__law_kept := okE_kept (P := P) (w := w) (base := base) E_InvalidLine.m E_InvalidText.m E_InvalidHouses.m E_InvalidRoads.m E_InvalidHouse.m E_InvalidNames.m E_InvalidScript.m E_InvalidFounds.m E_InvalidCount.m E_InvalidCounts.m E_InvalidLater.m E_InvalidIndex.m E_InvalidReaders.m E_InvalidMap.m E_InvalidLot.m E_InvalidSeats.m E_InvalidName.m E_InvalidOwns.m E_InvalidLines.m E_InvalidWriters.m E_InvalidRows.m E_NotJoined.m E_Stopped.m E_Refused.m E_Ringed.m E_NoRow.m E_NotTwo.m E_Nobodys.m E_Crossed.m E_NotWhole.m E_Fitless.m E_Clash.m E_TooMany.m E_NoLetter.m E_NotARoad.m E_Twice.m E_NothingUnderWay.m E_NotRight.m M_LostError hC F__law_kept T
  have G__law_two_kept := ok_two_kept (P := P) (w := w) (base := base) E_InvalidLine.m E_InvalidText.m E_InvalidHouses.m E_InvalidRoads.m E_InvalidHouse.m E_InvalidNames.m E_InvalidScript.m E_InvalidFounds.m E_InvalidCount.m E_InvalidCounts.m E_InvalidLater.m E_InvalidIndex.m E_InvalidReaders.m E_InvalidMap.m E_InvalidLot.m E_InvalidSeats.m E_InvalidName.m E_InvalidOwns.m E_InvalidLines.m E_InvalidWriters.m E_InvalidRows.m E_NotJoined.m E_Stopped.m E_Refused.m E_Ringed.m E_NoRow.m E_NotTwo.m E_Nobodys.m E_Crossed.m E_NotWhole.m E_Fitless.m E_Clash.m E_TooMany.m E_NoLetter.m E_NotARoad.m E_Twice.m E_NothingUnderWay.m E_NotRight.m M_LostError hC F__law_two_kept T
  have HE__law_two_kept := okE_two_kept (P := P) (w := w) (base := base) E_InvalidLine.m E_InvalidText.m E_InvalidHouses.m E_InvalidRoads.m E_InvalidHouse.m E_InvalidNames.m E_InvalidScript.m E_InvalidFounds.m E_InvalidCount.m E_InvalidCounts.m E_InvalidLater.m E_InvalidIndex.m E_InvalidReaders.m E_InvalidMap.m E_InvalidLot.m E_InvalidSeats.m E_InvalidName.m E_InvalidOwns.m E_InvalidLines.m E_InvalidWriters.m E_InvalidRows.m E_NotJoined.m E_Stopped.m E_Refused.m E_Ringed.m E_NoRow.m E_NotTwo.m E_Nobodys.m E_Crossed.m E_NotWhole.m E_Fitless.m E_Clash.m E_TooMany.m E_NoLetter.m E_NotARoad.m E_Twice.m E_NothingUnderWay.m E_NotRight.m M_LostError hC F__law_two_kept T
  have G__law_thing := ok_thing (P := P) (w := w) (base := base) F__law_thing T D__law_take G__law_take b__law_take E_InvalidText I_InvalidText
  have G__law_same := ok_same (P := P) (w := w) (base := base) F__law_same T E_InvalidText M_LostError k1C kL y1C
  have H__law_same := okH_same (P := P) (w := w) (base := base) F__law_same T E_InvalidText M_LostError k1C kL y1C
  have G__law_caught := ok_caught (P := P) (w := w) (base := base) F__law_caught T E_Stopped I_Stopped E_InvalidCounts I_InvalidCounts E_Twice I_Twice E_NothingUnderWay I_NothingUnderWay E_NotRight I_NotRight E_Crossed I_Crossed D__law_take G__law_take b__law_take D__law_same H__law_same b__law_same D__law_is HE__law_is b__law_is D__law_kept HE__law_kept b__law_kept D__law_two_kept HE__law_two_kept b__law_two_kept M_LostError hC hX
  have G__law_ones_right := ok_ones_right (P := P) (w := w) (base := base) F__law_ones_right T D__law_by_place G__law_by_place b__law_by_place D__law_by_name G__law_by_name b__law_by_name D__law_is G__law_is b__law_is D__law_kept G__law_kept b__law_kept D__law_same G__law_same b__law_same hO
  have G__law_twos_right := ok_twos_right (P := P) (w := w) (base := base) F__law_twos_right T D__law_twos G__law_twos b__law_twos D__law_is G__law_is b__law_is D__law_two_kept G__law_two_kept b__law_two_kept D__law_same G__law_same b__law_same hT
  have G__law_grown_right := ok_grown (P := P) (w := w) (base := base) F__law_grown_right T D__law_take G__law_take b__law_take D__law_by_place G__law_by_place b__law_by_place D__law_by_name G__law_by_name b__law_by_name D__law_twos G__law_twos b__law_twos D__law_kept G__law_kept b__law_kept D__law_two_kept G__law_two_kept b__law_two_kept hO hT
  exact ok_law F_law T D__law_box G__law_box b__law_box D__law_cell G__law_cell b__law_cell D__law_thing G__law_thing b__law_thing D__law_ones_right G__law_ones_right b__law_ones_right D__law_twos_right G__law_twos_right b__law_twos_right D__law_caught G__law_caught b__law_caught D__law_grown_right G__law_grown_right b__law_grown_right
end
end K00
def PySem.W.Fast.tw10356757092615792262 : Nat := 0
def PySem.W.Fast.tw1030821481344264941 : Nat := 0
def PySem.W.Fast.tw16780630309489899902 : Nat := 0
def PySem.W.Fast.tw15700468773086315045 : Nat := 0
def PySem.W.Fast.tw7719015021290752473 : Nat := 0
def PySem.W.Fast.tw2150925427172057041 : Nat := 0
def PySem.W.Fast.tw649221553112485832 : Nat := 0
def PySem.W.Fast.tw12938077457908483604 : Nat := 0
def PySem.W.Fast.tw8928335653467803315 : Nat := 0
def PySem.W.Fast.tw17977477209835086117 : Nat := 0
def PySem.W.Fast.tw7811145389184780769 : Nat := 0
def PySem.W.Fast.tw15350917266231676 : Nat := 0
def PySem.W.Fast.tw5899606751972224446 : Nat := 0
def PySem.W.Fast.tw8486414975479571203 : Nat := 0
def PySem.W.Fast.tw12383029547330156684 : Nat := 0
def PySem.W.Fast.tw6131863429979551321 : Nat := 0
def PySem.W.Fast.tw15259805455378410677 : Nat := 0
def PySem.W.Fast.tw2737400098638168644 : Nat := 0
def PySem.W.Fast.tw9211062932726669505 : Nat := 0
def PySem.W.Fast.tw12748974288192138982 : Nat := 0
def PySem.W.Fast.tw12791252193356977475 : Nat := 0
def PySem.W.Fast.tw12041979481566887753 : Nat := 0
def PySem.W.Fast.tw6845137116579323405 : Nat := 0
def PySem.W.Fast.tw10978947970355418337 : Nat := 0
def PySem.W.Fast.tw1312640205797598384 : Nat := 0
def PySem.W.Fast.tw15994970568221278536 : Nat := 0
def PySem.W.Fast.tw2815212860652713064 : Nat := 0
def PySem.W.Fast.tw17757115523961932829 : Nat := 0
def PySem.W.Fast.tw5283843388354408651 : Nat := 0
def PySem.W.Fast.tw418033758901527152 : Nat := 0
def PySem.W.Fast.tw16914622771726461336 : Nat := 0
def PySem.W.Fast.tw4984176132537963341 : Nat := 0
def PySem.W.Fast.tw2844222258590933194 : Nat := 0
def PySem.W.Fast.tw18188875684439031282 : Nat := 0
def PySem.W.Fast.tw579046944550861037 : Nat := 0
def PySem.W.Fast.tw13024581154235705117 : Nat := 0
def PySem.W.Fast.tw9408931552882456483 : Nat := 0
def PySem.W.Fast.tw15912674134254541907 : Nat := 0
def PySem.W.Fast.tw1599810782982511918 : Nat := 0
def PySem.W.Fast.tw15488589554146994508 : Nat := 0
def PySem.W.Fast.tw17687131588067879967 : Nat := 0
def PySem.W.Fast.tw16041793738973076896 : Nat := 0
def PySem.W.Fast.tw16376410733247838652 : Nat := 0
def PySem.W.Fast.tw7610867439935552018 : Nat := 0
def PySem.W.Fast.tw3916735986342695541 : Nat := 0
def PySem.W.Fast.tw14952065135679277319 : Nat := 0
def PySem.W.Fast.tw8823313238282061284 : Nat := 0
def PySem.W.Fast.tw2620203532813923343 : Nat := 0
def PySem.W.Fast.tw11979972312926012964 : Nat := 0
def PySem.W.Fast.tw10348000353748776257 : Nat := 0
def PySem.W.Fast.tw5882223974184798010 : Nat := 0
def PySem.W.Fast.tw11398763033325390051 : Nat := 0
def PySem.W.Fast.tw17744857866235172013 : Nat := 0
def PySem.W.Fast.tw1979838044461954884 : Nat := 0
def PySem.W.Fast.tw11724574143513848075 : Nat := 0
def PySem.W.Fast.tw14356357588167861782 : Nat := 0
def PySem.W.Fast.tw16540095870989282857 : Nat := 0
def PySem.W.Fast.tw9957919638255610392 : Nat := 0
def PySem.W.Fast.tw5622690341164924732 : Nat := 0
def PySem.W.Fast.tw14379703075684586370 : Nat := 0
def PySem.W.Fast.tw9058120706481706143 : Nat := 0
def PySem.W.Fast.tw1083593476936170713 : Nat := 0
def PySem.W.Fast.tw10140076980504659026 : Nat := 0
def PySem.W.Fast.tw8201477712828492917 : Nat := 0
def PySem.W.Fast.tw8558433401070983043 : Nat := 0
def PySem.W.Fast.tw5859398697978138921 : Nat := 0
def PySem.W.Fast.tw7256900280615855659 : Nat := 0
def PySem.W.Fast.tw5090081076261665226 : Nat := 0
def PySem.W.Fast.tw14081186522669235298 : Nat := 0
def PySem.W.Fast.tw2741635861906311809 : Nat := 0
def PySem.W.Fast.tw3316419313422784539 : Nat := 0
def PySem.W.Fast.tw15756580145700178555 : Nat := 0
def PySem.W.Fast.tw11442842646512025955 : Nat := 0
def PySem.W.Fast.tw4638886940169063149 : Nat := 0
def PySem.W.Fast.tw8059071176141138206 : Nat := 0
def PySem.W.Fast.tw5458199878949004804 : Nat := 0
def PySem.W.Fast.tw2049659226275670416 : Nat := 0
def PySem.W.Fast.tw8545797834067577599 : Nat := 0
def PySem.W.Fast.tw4721734565134972559 : Nat := 0
def PySem.W.Fast.tw7571596643349329874 : Nat := 0
def PySem.W.Fast.tw12121583950241798081 : Nat := 0
def PySem.W.Fast.tw13429961471097610306 : Nat := 0
def PySem.W.Fast.tw10117313046353348506 : Nat := 0
def PySem.W.Fast.tw8084064109365337758 : Nat := 0
def PySem.W.Fast.tw15637295275972622692 : Nat := 0
def PySem.W.Fast.tw17678775709093266163 : Nat := 0
def PySem.W.Fast.tw10327513891396621168 : Nat := 0
def PySem.W.Fast.tw12577329340094675974 : Nat := 0
def PySem.W.Fast.tw13913322440469982471 : Nat := 0
def PySem.W.Fast.tw11072057841477913999 : Nat := 0
def PySem.W.Fast.tw18018313119290202463 : Nat := 0
def PySem.W.Fast.tw1639664075923167050 : Nat := 0
def PySem.W.Fast.tw15062130343005718800 : Nat := 0
def PySem.W.Fast.tw10397803330883209638 : Nat := 0
def PySem.W.Fast.tw6431896715476029078 : Nat := 0
def PySem.W.Fast.tw17954222723235160771 : Nat := 0
def PySem.W.Fast.tw10868550499710116081 : Nat := 0
def PySem.W.Fast.tw10045024776131862809 : Nat := 0
def PySem.W.Fast.tw2815778472372454654 : Nat := 0
def PySem.W.Fast.tw17079457271778044617 : Nat := 0
def PySem.W.Fast.tw2455120980417600036 : Nat := 0
def PySem.W.Fast.tw5658308414646627107 : Nat := 0
def PySem.W.Fast.tw12717134688800868709 : Nat := 0
def PySem.W.Fast.tw14017036582437830592 : Nat := 0
def PySem.W.Fast.tw14615056434170953457 : Nat := 0
def PySem.W.Fast.tw22141852297706610 : Nat := 0
def PySem.W.Fast.tw3465253279757635390 : Nat := 0
def PySem.W.Fast.tw15384875309820664225 : Nat := 0
def PySem.W.Fast.tw17755396617381676554 : Nat := 0
def PySem.W.Fast.tw8615423163085243488 : Nat := 0
def PySem.W.Fast.tw6702360515644608425 : Nat := 0
def PySem.W.Fast.tw3433401139524860838 : Nat := 0
def PySem.W.Fast.tw13595145490061547993 : Nat := 0
def PySem.W.Fast.tw4628501947553179693 : Nat := 0
def PySem.W.Fast.tw9152813232407499150 : Nat := 0
def PySem.W.Fast.tw10004853427255163136 : Nat := 0
def PySem.W.Fast.tw335906854017475455 : Nat := 0
def PySem.W.Fast.tw8030013108415857823 : Nat := 0
def PySem.W.Fast.tw4545238513812230054 : Nat := 0
def PySem.W.Fast.tw13536182665815951965 : Nat := 0
def PySem.W.Fast.tw7654544612843425632 : Nat := 0
def PySem.W.Fast.tw12574742947370510324 : Nat := 0
def PySem.W.Fast.tw6249072775807940750 : Nat := 0
def PySem.W.Fast.tw4152655998640034723 : Nat := 0
def PySem.W.Fast.tw9765256128712809278 : Nat := 0
def PySem.W.Fast.tw13854566758463800933 : Nat := 0
def PySem.W.Fast.tw11201066518152230120 : Nat := 0
def PySem.W.Fast.tw17661967506492025796 : Nat := 0
def PySem.W.Fast.tw8418686691481964293 : Nat := 0
def PySem.W.Fast.tw5204786500324612136 : Nat := 0
def PySem.W.Fast.tw10397455077903999999 : Nat := 0
def PySem.W.Fast.tw10854312467805923491 : Nat := 0
def PySem.W.Fast.tw1060182783319497153 : Nat := 0
def PySem.W.Fast.tw7564995478635408744 : Nat := 0
def PySem.W.Fast.tw9997615097891009371 : Nat := 0
def PySem.W.Fast.tw4185787726642147181 : Nat := 0
def PySem.W.Fast.tw12815853731206509730 : Nat := 0
def PySem.W.Fast.tw14521766214437252133 : Nat := 0
def PySem.W.Fast.tw157967161203516247 : Nat := 0
def PySem.W.Fast.tw17033126945994221367 : Nat := 0
def PySem.W.Fast.tw3830591601151828530 : Nat := 0
def PySem.W.Fast.tw15720235458656248219 : Nat := 0
def PySem.W.Fast.tw4043444504726425047 : Nat := 0
def PySem.W.Fast.tw11275307709308105728 : Nat := 0
def PySem.W.Fast.tw17685311570141271767 : Nat := 0
def PySem.W.Fast.tw8768921811139837363 : Nat := 0
def PySem.W.Fast.tw13594251399110667779 : Nat := 0
def PySem.W.Fast.tw17129817181327661092 : Nat := 0
def PySem.W.Fast.tw12171493555722551040 : Nat := 0
def PySem.W.Fast.tw10472721684257694571 : Nat := 0
def PySem.W.Fast.tw8549090638357231189 : Nat := 0
def PySem.W.Fast.tw17517486806084536125 : Nat := 0
def PySem.W.Fast.tw8401789097473520989 : Nat := 0
def PySem.W.Fast.tw908143596796288864 : Nat := 0
def PySem.W.Fast.tw11823162742579293754 : Nat := 0
def PySem.W.Fast.tw15301001570752993936 : Nat := 0
def PySem.W.Fast.tw10357980006442631088 : Nat := 0
def PySem.W.Fast.tw18080542856792306065 : Nat := 0
def PySem.W.Fast.tw14802856679107554697 : Nat := 0
def PySem.W.Fast.tw16720278565311473877 : Nat := 0
def PySem.W.Fast.tw5128874795665404999 : Nat := 0
def PySem.W.Fast.tw17989995593121315611 : Nat := 0
def PySem.W.Fast.tw17673436045265320135 : Nat := 0
def PySem.W.Fast.tw1031031469962351893 : Nat := 0
def PySem.W.Fast.tw14384551254824678632 : Nat := 0
def PySem.W.Fast.tw7925385592226483259 : Nat := 0
def PySem.W.Fast.tw13404897882469205209 : Nat := 0
def PySem.W.Fast.tw2755694696470138894 : Nat := 0
def PySem.W.Fast.tw5802243900886348228 : Nat := 0
def PySem.W.Fast.tw15535059634701551912 : Nat := 0
def PySem.W.Fast.tw6521892686980917240 : Nat := 0
def PySem.W.Fast.tw17840731886432008595 : Nat := 0
def PySem.W.Fast.tw17531528076009229767 : Nat := 0
def PySem.W.Fast.tw6777760488848643358 : Nat := 0
def PySem.W.Fast.tw800578793245940040 : Nat := 0
def PySem.W.Fast.tw3024405487173613689 : Nat := 0
def PySem.W.Fast.tw15602441032763698798 : Nat := 0
def PySem.W.Fast.tw13222310757715077399 : Nat := 0
def PySem.W.Fast.tw1090190862638603610 : Nat := 0
def PySem.W.Fast.tw12034710209308167268 : Nat := 0
def PySem.W.Fast.tw3278970797062711321 : Nat := 0
def PySem.W.Fast.tw15352427271680779685 : Nat := 0
def PySem.W.Fast.tw15929712279945088977 : Nat := 0
def PySem.W.Fast.tw17999989940331280553 : Nat := 0
def PySem.W.Fast.tw12964716680215932927 : Nat := 0
def PySem.W.Fast.tw6541821436078994802 : Nat := 0
def PySem.W.Fast.tw13276095056249149779 : Nat := 0
def PySem.W.Fast.tw10996067232357996401 : Nat := 0
def PySem.W.Fast.tw11319087842973696183 : Nat := 0
def PySem.W.Fast.tw17534157709747094715 : Nat := 0
def PySem.W.Fast.tw10611723410149796814 : Nat := 0
def PySem.W.Fast.tw10166116120885007111 : Nat := 0
def PySem.W.Fast.tw16258338214932323055 : Nat := 0
def PySem.W.Fast.tw1381453083984183789 : Nat := 0
def PySem.W.Fast.tw6988034331224133058 : Nat := 0
def PySem.W.Fast.tw12623334874567432896 : Nat := 0
def PySem.W.Fast.tw3916015747531638703 : Nat := 0
def PySem.W.Fast.tw3417835219611036879 : Nat := 0
def PySem.W.Fast.tw8765328898953015988 : Nat := 0
def PySem.W.Fast.tw5133095237856932696 : Nat := 0
def PySem.W.Fast.tw15811897047344710227 : Nat := 0
def PySem.W.Fast.tw13115152039233970803 : Nat := 0
def PySem.W.Fast.tw10190452072305562508 : Nat := 0
def PySem.W.Fast.tw9042515962056016738 : Nat := 0
def PySem.W.Fast.tw12883459383559090819 : Nat := 0
def PySem.W.Fast.tw10839709367458616101 : Nat := 0
def PySem.W.Fast.tw16960147194017240628 : Nat := 0
def PySem.W.Fast.tw16066069540173076479 : Nat := 0
def PySem.W.Fast.tw641384264322045381 : Nat := 0
def PySem.W.Fast.tw4485597236234427261 : Nat := 0
def PySem.W.Fast.tw2508252116106458205 : Nat := 0
def PySem.W.Fast.tw510021721829586133 : Nat := 0
def PySem.W.Fast.tw7974598991977712851 : Nat := 0
def PySem.W.Fast.tw656821404736692626 : Nat := 0
def PySem.W.Fast.tw5530008250881064686 : Nat := 0
def PySem.W.Fast.tw17831103211110089285 : Nat := 0
def PySem.W.Fast.tw8738658359564524135 : Nat := 0
def PySem.W.Fast.tw829065916232466998 : Nat := 0
def PySem.W.Fast.tw1740855897910038204 : Nat := 0
def PySem.W.Fast.tw17621726217933729825 : Nat := 0
def PySem.W.Fast.tw7837449312499702731 : Nat := 0
def PySem.W.Fast.tw11615163642066807602 : Nat := 0
def PySem.W.Fast.tw18444202008793281743 : Nat := 0
def PySem.W.Fast.tw6861748390017950282 : Nat := 0
def PySem.W.Fast.tw10063114780992788119 : Nat := 0
def PySem.W.Fast.tw481147089553323155 : Nat := 0
def PySem.W.Fast.tw956707555739448842 : Nat := 0
def PySem.W.Fast.tw8893960480262988444 : Nat := 0
def PySem.W.Fast.tw17039339882599994180 : Nat := 0
def PySem.W.Fast.tw6433158830975724412 : Nat := 0
def PySem.W.Fast.tw1700986700078383901 : Nat := 0
def PySem.W.Fast.tw12395313278253860871 : Nat := 0
def PySem.W.Fast.tw247240171669810424 : Nat := 0
def PySem.W.Fast.tw2297420841282245091 : Nat := 0
def PySem.W.Fast.tw12097187685326857788 : Nat := 0
def PySem.W.Fast.tw16154825385558632731 : Nat := 0
def PySem.W.Fast.tw10303217199769397977 : Nat := 0
def PySem.W.Fast.tw4969595888710475226 : Nat := 0
def PySem.W.Fast.tw3823842217938910101 : Nat := 0
def PySem.W.Fast.tw6400735066210962235 : Nat := 0
def PySem.W.Fast.tw16767356317028240871 : Nat := 0
def PySem.W.Fast.tw333394142216647746 : Nat := 0
def PySem.W.Fast.tw72148482804631848 : Nat := 0
def PySem.W.Fast.tw15757578120752135656 : Nat := 0
def PySem.W.Fast.tw2817970742691843318 : Nat := 0
def PySem.W.Fast.tw10257225600282979152 : Nat := 0
def PySem.W.Fast.tw7389698109962803908 : Nat := 0
def PySem.W.Fast.tw709030050696084969 : Nat := 0
def PySem.W.Fast.tw7643719854099159890 : Nat := 0
def PySem.W.Fast.tw11972538048969203656 : Nat := 0
def PySem.W.Fast.tw16735548532457243107 : Nat := 0
def PySem.W.Fast.tw987145631098312225 : Nat := 0
def PySem.W.Fast.tw14832020094162842530 : Nat := 0
def PySem.W.Fast.tw7569937857586879887 : Nat := 0
def PySem.W.Fast.tw17347081250799656743 : Nat := 0
def PySem.W.Fast.tw5407281693455520787 : Nat := 0
def PySem.W.Fast.tw14595842189853491163 : Nat := 0
def PySem.W.Fast.tw17561111544331723897 : Nat := 0
def PySem.W.Fast.tw5135728934924475253 : Nat := 0
def PySem.W.Fast.tw17286746940512513118 : Nat := 0
def PySem.W.Fast.tw15894676892008221753 : Nat := 0
def PySem.W.Fast.tw18167461020750236041 : Nat := 0
def PySem.W.Fast.tw4625417375185404658 : Nat := 0
def PySem.W.Fast.tw10967291414060883558 : Nat := 0
def PySem.W.Fast.tw11994431700622229883 : Nat := 0
def PySem.W.Fast.tw5763091042541499792 : Nat := 0
def PySem.W.Fast.tw17187100586793763870 : Nat := 0
def PySem.W.Fast.tw11970101655268103921 : Nat := 0
def PySem.W.Fast.tw15071068683290154109 : Nat := 0
def PySem.W.Fast.tw15574634935782937334 : Nat := 0
def PySem.W.Fast.tw13915478133860610018 : Nat := 0
def PySem.W.Fast.tw11837230926097416030 : Nat := 0
def PySem.W.Fast.tw12855573816926037823 : Nat := 0
def PySem.W.Fast.tw17468481582022458460 : Nat := 0
def PySem.W.Fast.tw13858502128459969808 : Nat := 0
def PySem.W.Fast.tw7019775986754362086 : Nat := 0
def PySem.W.Fast.tw2075079369987982602 : Nat := 0
def PySem.W.Fast.tw11626890895010660302 : Nat := 0
def PySem.W.Fast.tw2886444364644440582 : Nat := 0
def PySem.W.Fast.tw6043548607451627175 : Nat := 0
def PySem.W.Fast.tw6005267302083383922 : Nat := 0
def PySem.W.Fast.tw9983547549587189242 : Nat := 0
def PySem.W.Fast.tw3964504663522608250 : Nat := 0
def PySem.W.Fast.tw555211670906256237 : Nat := 0
def PySem.W.Fast.tw2247815916889826113 : Nat := 0
def PySem.W.Fast.tw18148250600589621334 : Nat := 0
def PySem.W.Fast.tw18164238792418855834 : Nat := 0
def PySem.W.Fast.tw1078506103766546940 : Nat := 0
def PySem.W.Fast.tw8004151927114441812 : Nat := 0
def PySem.W.Fast.tw6942502874647055595 : Nat := 0
def PySem.W.Fast.tw12484796788617601989 : Nat := 0
def PySem.W.Fast.tw16418478333075197861 : Nat := 0
def PySem.W.Fast.tw8570276111653295472 : Nat := 0
def PySem.W.Fast.tw16541229396900477993 : Nat := 0
def PySem.W.Fast.tw11042928314306051193 : Nat := 0
def PySem.W.Fast.tw5717329612194374640 : Nat := 0
def PySem.W.Fast.tw7772968251526479053 : Nat := 0
def PySem.W.Fast.tw8933162393488155567 : Nat := 0
def PySem.W.Fast.tw14750563729082169404 : Nat := 0
def PySem.W.Fast.tw5629075034038120873 : Nat := 0
def PySem.W.Fast.tw11392940264738771952 : Nat := 0
def PySem.W.Fast.tw16323941968041852740 : Nat := 0
def PySem.W.Fast.tw12204095164268871037 : Nat := 0
def PySem.W.Fast.tw4186415101587954765 : Nat := 0
def PySem.W.Fast.tw12548248057115605267 : Nat := 0
def PySem.W.Fast.tw1462935569063085607 : Nat := 0
def PySem.W.Fast.tw17399985244128972783 : Nat := 0
def PySem.W.Fast.tw15648693111618148383 : Nat := 0
def PySem.W.Fast.tw2618587583507642806 : Nat := 0
def PySem.W.Fast.tw9451251757570666131 : Nat := 0
def PySem.W.Fast.tw16820645073920732959 : Nat := 0
def PySem.W.Fast.tw8707229170406513554 : Nat := 0
def PySem.W.Fast.tw14970949156326271394 : Nat := 0
def PySem.W.Fast.tw2450732663699393568 : Nat := 0
def PySem.W.Fast.tw7601291257787203537 : Nat := 0
def PySem.W.Fast.tw15351366904085007224 : Nat := 0
def PySem.W.Fast.tw7073026195424722895 : Nat := 0
def PySem.W.Fast.tw13620803488294350918 : Nat := 0
def PySem.W.Fast.tw6876576767180693826 : Nat := 0
def PySem.W.Fast.tw13219242225237883130 : Nat := 0
def PySem.W.Fast.tw15692865837159623794 : Nat := 0
def PySem.W.Fast.tw4572147378810176944 : Nat := 0
def PySem.W.Fast.tw7873480670016945063 : Nat := 0
def PySem.W.Fast.tw4156346388664401686 : Nat := 0
def PySem.W.Fast.tw6658219932577651920 : Nat := 0
def PySem.W.Fast.tw11624260906638557607 : Nat := 0
def PySem.W.Fast.tw2544912523258474499 : Nat := 0
def PySem.W.Fast.tw14691196539857051409 : Nat := 0
def PySem.W.Fast.tw1826201697398655600 : Nat := 0
def PySem.W.Fast.tw2792752217952580097 : Nat := 0
def PySem.W.Fast.tw14900370223409360869 : Nat := 0
def PySem.W.Fast.tw2689634437303541385 : Nat := 0
def PySem.W.Fast.tw2205343434904424452 : Nat := 0
def PySem.W.Fast.tw10205242681995194019 : Nat := 0
def PySem.W.Fast.tw1211978855377024350 : Nat := 0
def PySem.W.Fast.tw3456705808648992049 : Nat := 0
def PySem.W.Fast.tw2644087504334778031 : Nat := 0
def PySem.W.Fast.tw15348425697458697929 : Nat := 0
def PySem.W.Fast.tw1281120362098073404 : Nat := 0
def PySem.W.Fast.tw15241620090424541069 : Nat := 0
def PySem.W.Fast.tw7716165169954163895 : Nat := 0
def PySem.W.Fast.tw8318013683356792949 : Nat := 0
def PySem.W.Fast.tw14447461470269729523 : Nat := 0
def PySem.W.Fast.tw6427933839700239126 : Nat := 0
def PySem.W.Fast.tw1403288000949175736 : Nat := 0
def PySem.W.Fast.tw6972939580584350319 : Nat := 0
def PySem.W.Fast.tw2189621753655855662 : Nat := 0
def PySem.W.Fast.tw7726068693304456677 : Nat := 0
def PySem.W.Fast.tw11967597141891570701 : Nat := 0
def PySem.W.Fast.tw15650961918755725181 : Nat := 0
def PySem.W.Fast.tw14400259045412977028 : Nat := 0
def PySem.W.Fast.tw6937343702003470767 : Nat := 0
def PySem.W.Fast.tw13206606858707723506 : Nat := 0
def PySem.W.Fast.tw16790309163103114296 : Nat := 0
def PySem.W.Fast.tw1473444115915277116 : Nat := 0
def PySem.W.Fast.tw14743350073516670775 : Nat := 0
def PySem.W.Fast.tw5205427456929017859 : Nat := 0
def PySem.W.Fast.tw18033905819962049926 : Nat := 0
def PySem.W.Fast.tw11231469355246402330 : Nat := 0
def PySem.W.Fast.tw5334197356719178041 : Nat := 0
def PySem.W.Fast.tw11912482591094154211 : Nat := 0
def PySem.W.Fast.tw8638575112759355306 : Nat := 0
def PySem.W.Fast.tw1002768107354916520 : Nat := 0
def PySem.W.Fast.tw8419872853845364987 : Nat := 0
def PySem.W.Fast.tw9071649782764232005 : Nat := 0
def PySem.W.Fast.tw4100309507548430148 : Nat := 0
def PySem.W.Fast.tw16879692078720527370 : Nat := 0
def PySem.W.Fast.tw14355926212006389427 : Nat := 0
def PySem.W.Fast.tw1560943266785605363 : Nat := 0
def PySem.W.Fast.tw18102693580661090791 : Nat := 0
def PySem.W.Fast.tw16739915104226650491 : Nat := 0
def PySem.W.Fast.tw10629698476489674578 : Nat := 0
def PySem.W.Fast.tw6981904866683996934 : Nat := 0
def PySem.W.Fast.tw530071866399380367 : Nat := 0
def PySem.W.Fast.tw16645751452374853658 : Nat := 0
def PySem.W.Fast.tw2873276505026501970 : Nat := 0
def PySem.W.Fast.tw5729086021336115036 : Nat := 0
def PySem.W.Fast.tw11257268600768310074 : Nat := 0
def PySem.W.Fast.tw5449452645250937855 : Nat := 0
def PySem.W.Fast.tw15979931158981830801 : Nat := 0
def PySem.W.Fast.tw15046785697846764452 : Nat := 0
def PySem.W.Fast.tw4727953147606574766 : Nat := 0
def PySem.W.Fast.tw10873633467821549598 : Nat := 0
def PySem.W.Fast.tw16761963483974604302 : Nat := 0
def PySem.W.Fast.tw14898022034009386701 : Nat := 0
def PySem.W.Fast.tw2495105397557199298 : Nat := 0
def PySem.W.Fast.tw7502612212309081624 : Nat := 0
def PySem.W.Fast.tw12806468503957070798 : Nat := 0
def PySem.W.Fast.tw6882026072374577220 : Nat := 0
open PySem PySem.W PyProof.Rows in
set_option Elab.async false in
set_option linter.all false in
set_option maxRecDepth 100000 in
set_option maxHeartbeats 0 in
theorem PySem.Challenge.cw_maplost_k00_errors_holds : PySem.Challenge.rw_maplost_k00_errors.Holds := by
  w_on; o_law; k_head; (case hw => w_witness2)
  k_fill
  refine DL.walkG (l := PySem.Challenge.rw_maplost_k00_errors) (n := 63) (k := 5) (x := "script") (A := K00.pm_law) rfl (by decide) rfl ⟨rfl, by decide, by decide⟩ (fun w h Y => PySem.W.kIn_of Y) ?F (fun K ns hl => ⟨ns, rfl, hl, fun _ => rfl⟩)
  case F =>
    intro w mg fa h KX G hmg
    refine' K00.all_mk KX G hmg ?eL ?lcs ?lsg ?ltp ?lrd ?lfc ?lex ?csp ?ctk ?a0 ?l0 ?c0 ?k0 ?a1 ?l1 ?c1 ?k1 ?a2 ?l2 ?c2 ?k2 ?a3 ?l3 ?c3 ?k3 ?a4 ?l4 ?c4 ?k4 ?a5 ?l5 ?c5 ?k5 ?a6 ?l6 ?c6 ?k6 ?a7 ?l7 ?c7 ?k7 ?a8 ?l8 ?c8 ?k8 ?a9 ?l9 ?c9 ?k9 ?a10 ?l10 ?c10 ?k10 ?a11 ?l11 ?c11 ?k11 ?a12 ?l12 ?c12 ?k12 ?a13 ?l13 ?c13 ?k13 ?a14 ?l14 ?c14 ?k14 ?a15 ?l15 ?c15 ?k15 ?a16 ?l16 ?c16 ?k16 ?z_isinstance ?z_len ?z_int ?z_abs ?z_sum ?z_repr ?z_max ?z_min ?z_range ?z_ValueError ?Y0 ?Y1 ?Y2 ?Y3 ?Y4 ?Y5 ?Y6 ?Y7 ?Y8 ?Y9 ?Y10 ?Y11 ?Y12 ?Y13 ?Y14 ?Y15 ?Y16 ?Y17 ?Y18 ?Y19 ?Y20 ?Y21 ?Y22 ?Y23 ?Y24 ?Y25 ?Y26 ?Y27 ?Y28 ?Y29 ?Y30 ?Y31 ?Y32 ?Y33 ?Y34 ?Y35 ?Y36 ?Y37 ?nd
    (case eL => k_is)
    (case lcs => k_is)
    (case lsg => k_is)
    (case ltp => k_is)
    (case lrd => k_is)
    (case lfc => k_is)
    (case lex => k_is)
    (case csp => k_is)
    (case ctk => k_is)
    (case a0 => k_is)
    (case l0 => k_is)
    (case c0 => k_is)
    (case k0 => k_is)
    (case a1 => k_is)
    (case l1 => k_is)
    (case c1 => k_is)
    (case k1 => k_is)
    (case a2 => k_is)
    (case l2 => k_is)
    (case c2 => k_is)
    (case k2 => k_is)
    (case a3 => k_is)
    (case l3 => k_is)
    (case c3 => k_is)
    (case k3 => k_is)
    (case a4 => k_is)
    (case l4 => k_is)
    (case c4 => k_is)
    (case k4 => k_is)
    (case a5 => k_is)
    (case l5 => k_is)
    (case c5 => k_is)
    (case k5 => k_is)
    (case a6 => k_is)
    (case l6 => k_is)
    (case c6 => k_is)
    (case k6 => k_is)
    (case a7 => k_is)
    (case l7 => k_is)
    (case c7 => k_is)
    (case k7 => k_is)
    (case a8 => k_is)
    (case l8 => k_is)
    (case c8 => k_is)
    (case k8 => k_is)
    (case a9 => k_is)
    (case l9 => k_is)
    (case c9 => k_is)
    (case k9 => k_is)
    (case a10 => k_is)
    (case l10 => k_is)
    (case c10 => k_is)
    (case k10 => k_is)
    (case a11 => k_is)
    (case l11 => k_is)
    (case c11 => k_is)
    (case k11 => k_is)
    (case a12 => k_is)
    (case l12 => k_is)
    (case c12 => k_is)
    (case k12 => k_is)
    (case a13 => k_is)
    (case l13 => k_is)
    (case c13 => k_is)
    (case k13 => k_is)
    (case a14 => k_is)
    (case l14 => k_is)
    (case c14 => k_is)
    (case k14 => k_is)
    (case a15 => k_is)
    (case l15 => k_is)
    (case c15 => k_is)
    (case k15 => k_is)
    (case a16 => k_is)
    (case l16 => k_is)
    (case c16 => k_is)
    (case k16 => k_is)
    (case z_isinstance => k_is)
    (case z_len => k_is)
    (case z_int => k_is)
    (case z_abs => k_is)
    (case z_sum => k_is)
    (case z_repr => k_is)
    (case z_max => k_is)
    (case z_min => k_is)
    (case z_range => k_is)
    (case z_ValueError => k_is)
    (case Y0 => refine' K00.mk_InvalidLine KX G ?eA ?eX ?eS ?eK ?ega ?egg ?ecl ?eno ?ei ?eti ?eli ?eci ?eki; (case eA => k_is); (case eX => k_is); (case eS => k_is); (case eK => k_is); (case ega => k_is); (case egg => k_is); (case ecl => k_is); (case eno => k_is); (case ei => k_is); (case eti => k_is); (case eli => k_is); (case eci => k_is); (case eki => k_is))
    (case Y1 => refine' K00.mk_InvalidText KX G ?eA ?eX ?eS ?eK ?ega ?egg ?ecl ?eno ?ei ?eti ?eli ?eci ?eki; (case eA => k_is); (case eX => k_is); (case eS => k_is); (case eK => k_is); (case ega => k_is); (case egg => k_is); (case ecl => k_is); (case eno => k_is); (case ei => k_is); (case eti => k_is); (case eli => k_is); (case eci => k_is); (case eki => k_is))
    (case Y2 => refine' K00.mk_InvalidHouses KX G ?eA ?eX ?eS ?eK ?ega ?egg ?ecl ?eno ?ei ?eti ?eli ?eci ?eki; (case eA => k_is); (case eX => k_is); (case eS => k_is); (case eK => k_is); (case ega => k_is); (case egg => k_is); (case ecl => k_is); (case eno => k_is); (case ei => k_is); (case eti => k_is); (case eli => k_is); (case eci => k_is); (case eki => k_is))
    (case Y3 => refine' K00.mk_InvalidRoads KX G ?eA ?eX ?eS ?eK ?ega ?egg ?ecl ?eno ?ei ?eti ?eli ?eci ?eki; (case eA => k_is); (case eX => k_is); (case eS => k_is); (case eK => k_is); (case ega => k_is); (case egg => k_is); (case ecl => k_is); (case eno => k_is); (case ei => k_is); (case eti => k_is); (case eli => k_is); (case eci => k_is); (case eki => k_is))
    (case Y4 => refine' K00.mk_InvalidHouse KX G ?eA ?eX ?eS ?eK ?ega ?egg ?ecl ?eno ?ei ?eti ?eli ?eci ?eki; (case eA => k_is); (case eX => k_is); (case eS => k_is); (case eK => k_is); (case ega => k_is); (case egg => k_is); (case ecl => k_is); (case eno => k_is); (case ei => k_is); (case eti => k_is); (case eli => k_is); (case eci => k_is); (case eki => k_is))
    (case Y5 => refine' K00.mk_InvalidNames KX G ?eA ?eX ?eS ?eK ?ega ?egg ?ecl ?eno ?ei ?eti ?eli ?eci ?eki; (case eA => k_is); (case eX => k_is); (case eS => k_is); (case eK => k_is); (case ega => k_is); (case egg => k_is); (case ecl => k_is); (case eno => k_is); (case ei => k_is); (case eti => k_is); (case eli => k_is); (case eci => k_is); (case eki => k_is))
    (case Y6 => refine' K00.mk_InvalidScript KX G ?eA ?eX ?eS ?eK ?ega ?egg ?ecl ?eno ?ei ?eti ?eli ?eci ?eki; (case eA => k_is); (case eX => k_is); (case eS => k_is); (case eK => k_is); (case ega => k_is); (case egg => k_is); (case ecl => k_is); (case eno => k_is); (case ei => k_is); (case eti => k_is); (case eli => k_is); (case eci => k_is); (case eki => k_is))
    (case Y7 => refine' K00.mk_InvalidFounds KX G ?eA ?eX ?eS ?eK ?ega ?egg ?ecl ?eno ?ei ?eti ?eli ?eci ?eki; (case eA => k_is); (case eX => k_is); (case eS => k_is); (case eK => k_is); (case ega => k_is); (case egg => k_is); (case ecl => k_is); (case eno => k_is); (case ei => k_is); (case eti => k_is); (case eli => k_is); (case eci => k_is); (case eki => k_is))
    (case Y8 => refine' K00.mk_InvalidCount KX G ?eA ?eX ?eS ?eK ?ega ?egg ?ecl ?eno ?ei ?eti ?eli ?eci ?eki; (case eA => k_is); (case eX => k_is); (case eS => k_is); (case eK => k_is); (case ega => k_is); (case egg => k_is); (case ecl => k_is); (case eno => k_is); (case ei => k_is); (case eti => k_is); (case eli => k_is); (case eci => k_is); (case eki => k_is))
    (case Y9 => refine' K00.mk_InvalidCounts KX G ?eA ?eX ?eS ?eK ?ega ?egg ?ecl ?eno ?ei ?eti ?eli ?eci ?eki; (case eA => k_is); (case eX => k_is); (case eS => k_is); (case eK => k_is); (case ega => k_is); (case egg => k_is); (case ecl => k_is); (case eno => k_is); (case ei => k_is); (case eti => k_is); (case eli => k_is); (case eci => k_is); (case eki => k_is))
    (case Y10 => refine' K00.mk_InvalidLater KX G ?eA ?eX ?eS ?eK ?ega ?egg ?ecl ?eno ?ei ?eti ?eli ?eci ?eki; (case eA => k_is); (case eX => k_is); (case eS => k_is); (case eK => k_is); (case ega => k_is); (case egg => k_is); (case ecl => k_is); (case eno => k_is); (case ei => k_is); (case eti => k_is); (case eli => k_is); (case eci => k_is); (case eki => k_is))
    (case Y11 => refine' K00.mk_InvalidIndex KX G ?eA ?eX ?eS ?eK ?ega ?egg ?ecl ?eno ?ei ?eti ?eli ?eci ?eki; (case eA => k_is); (case eX => k_is); (case eS => k_is); (case eK => k_is); (case ega => k_is); (case egg => k_is); (case ecl => k_is); (case eno => k_is); (case ei => k_is); (case eti => k_is); (case eli => k_is); (case eci => k_is); (case eki => k_is))
    (case Y12 => refine' K00.mk_InvalidReaders KX G ?eA ?eX ?eS ?eK ?ega ?egg ?ecl ?eno ?ei ?eti ?eli ?eci ?eki; (case eA => k_is); (case eX => k_is); (case eS => k_is); (case eK => k_is); (case ega => k_is); (case egg => k_is); (case ecl => k_is); (case eno => k_is); (case ei => k_is); (case eti => k_is); (case eli => k_is); (case eci => k_is); (case eki => k_is))
    (case Y13 => refine' K00.mk_InvalidMap KX G ?eA ?eX ?eS ?eK ?ega ?egg ?ecl ?eno ?ei ?eti ?eli ?eci ?eki; (case eA => k_is); (case eX => k_is); (case eS => k_is); (case eK => k_is); (case ega => k_is); (case egg => k_is); (case ecl => k_is); (case eno => k_is); (case ei => k_is); (case eti => k_is); (case eli => k_is); (case eci => k_is); (case eki => k_is))
    (case Y14 => refine' K00.mk_InvalidLot KX G ?eA ?eX ?eS ?eK ?ega ?egg ?ecl ?eno ?ei ?eti ?eli ?eci ?eki; (case eA => k_is); (case eX => k_is); (case eS => k_is); (case eK => k_is); (case ega => k_is); (case egg => k_is); (case ecl => k_is); (case eno => k_is); (case ei => k_is); (case eti => k_is); (case eli => k_is); (case eci => k_is); (case eki => k_is))
    (case Y15 => refine' K00.mk_InvalidSeats KX G ?eA ?eX ?eS ?eK ?ega ?egg ?ecl ?eno ?ei ?eti ?eli ?eci ?eki; (case eA => k_is); (case eX => k_is); (case eS => k_is); (case eK => k_is); (case ega => k_is); (case egg => k_is); (case ecl => k_is); (case eno => k_is); (case ei => k_is); (case eti => k_is); (case eli => k_is); (case eci => k_is); (case eki => k_is))
    (case Y16 => refine' K00.mk_InvalidName KX G ?eA ?eX ?eS ?eK ?ega ?egg ?ecl ?eno ?ei ?eti ?eli ?eci ?eki; (case eA => k_is); (case eX => k_is); (case eS => k_is); (case eK => k_is); (case ega => k_is); (case egg => k_is); (case ecl => k_is); (case eno => k_is); (case ei => k_is); (case eti => k_is); (case eli => k_is); (case eci => k_is); (case eki => k_is))
    (case Y17 => refine' K00.mk_InvalidOwns KX G ?eA ?eX ?eS ?eK ?ega ?egg ?ecl ?eno ?ei ?eti ?eli ?eci ?eki; (case eA => k_is); (case eX => k_is); (case eS => k_is); (case eK => k_is); (case ega => k_is); (case egg => k_is); (case ecl => k_is); (case eno => k_is); (case ei => k_is); (case eti => k_is); (case eli => k_is); (case eci => k_is); (case eki => k_is))
    (case Y18 => refine' K00.mk_InvalidLines KX G ?eA ?eX ?eS ?eK ?ega ?egg ?ecl ?eno ?ei ?eti ?eli ?eci ?eki; (case eA => k_is); (case eX => k_is); (case eS => k_is); (case eK => k_is); (case ega => k_is); (case egg => k_is); (case ecl => k_is); (case eno => k_is); (case ei => k_is); (case eti => k_is); (case eli => k_is); (case eci => k_is); (case eki => k_is))
    (case Y19 => refine' K00.mk_InvalidWriters KX G ?eA ?eX ?eS ?eK ?ega ?egg ?ecl ?eno ?ei ?eti ?eli ?eci ?eki; (case eA => k_is); (case eX => k_is); (case eS => k_is); (case eK => k_is); (case ega => k_is); (case egg => k_is); (case ecl => k_is); (case eno => k_is); (case ei => k_is); (case eti => k_is); (case eli => k_is); (case eci => k_is); (case eki => k_is))
    (case Y20 => refine' K00.mk_InvalidRows KX G ?eA ?eX ?eS ?eK ?ega ?egg ?ecl ?eno ?ei ?eti ?eli ?eci ?eki; (case eA => k_is); (case eX => k_is); (case eS => k_is); (case eK => k_is); (case ega => k_is); (case egg => k_is); (case ecl => k_is); (case eno => k_is); (case ei => k_is); (case eti => k_is); (case eli => k_is); (case eci => k_is); (case eki => k_is))
    (case Y21 => refine' K00.mk_NotJoined KX G ?eA ?eX ?eS ?eK ?ega ?egg ?ecl ?eno ?ei ?eti ?eli ?eci ?eki; (case eA => k_is); (case eX => k_is); (case eS => k_is); (case eK => k_is); (case ega => k_is); (case egg => k_is); (case ecl => k_is); (case eno => k_is); (case ei => k_is); (case eti => k_is); (case eli => k_is); (case eci => k_is); (case eki => k_is))
    (case Y22 => refine' K00.mk_Stopped KX G ?eA ?eX ?eS ?eK ?ega ?egg ?ecl ?eno ?ei ?eti ?eli ?eci ?eki; (case eA => k_is); (case eX => k_is); (case eS => k_is); (case eK => k_is); (case ega => k_is); (case egg => k_is); (case ecl => k_is); (case eno => k_is); (case ei => k_is); (case eti => k_is); (case eli => k_is); (case eci => k_is); (case eki => k_is))
    (case Y23 => refine' K00.mk_Refused KX G ?eA ?eX ?eS ?eK ?ega ?egg ?ecl ?eno ?ei ?eti ?eli ?eci ?eki; (case eA => k_is); (case eX => k_is); (case eS => k_is); (case eK => k_is); (case ega => k_is); (case egg => k_is); (case ecl => k_is); (case eno => k_is); (case ei => k_is); (case eti => k_is); (case eli => k_is); (case eci => k_is); (case eki => k_is))
    (case Y24 => refine' K00.mk_Ringed KX G ?eA ?eX ?eS ?eK ?ega ?egg ?ecl ?eno ?ei ?eti ?eli ?eci ?eki; (case eA => k_is); (case eX => k_is); (case eS => k_is); (case eK => k_is); (case ega => k_is); (case egg => k_is); (case ecl => k_is); (case eno => k_is); (case ei => k_is); (case eti => k_is); (case eli => k_is); (case eci => k_is); (case eki => k_is))
    (case Y25 => refine' K00.mk_NoRow KX G ?eA ?eX ?eS ?eK ?ega ?egg ?ecl ?eno ?ei ?eti ?eli ?eci ?eki; (case eA => k_is); (case eX => k_is); (case eS => k_is); (case eK => k_is); (case ega => k_is); (case egg => k_is); (case ecl => k_is); (case eno => k_is); (case ei => k_is); (case eti => k_is); (case eli => k_is); (case eci => k_is); (case eki => k_is))
    (case Y26 => refine' K00.mk_NotTwo KX G ?eA ?eX ?eS ?eK ?ega ?egg ?ecl ?eno ?ei ?eti ?eli ?eci ?eki; (case eA => k_is); (case eX => k_is); (case eS => k_is); (case eK => k_is); (case ega => k_is); (case egg => k_is); (case ecl => k_is); (case eno => k_is); (case ei => k_is); (case eti => k_is); (case eli => k_is); (case eci => k_is); (case eki => k_is))
    (case Y27 => refine' K00.mk_Nobodys KX G ?eA ?eX ?eS ?eK ?ega ?egg ?ecl ?eno ?ei ?eti ?eli ?eci ?eki; (case eA => k_is); (case eX => k_is); (case eS => k_is); (case eK => k_is); (case ega => k_is); (case egg => k_is); (case ecl => k_is); (case eno => k_is); (case ei => k_is); (case eti => k_is); (case eli => k_is); (case eci => k_is); (case eki => k_is))
    (case Y28 => refine' K00.mk_Crossed KX G ?eA ?eX ?eS ?eK ?ega ?egg ?ecl ?eno ?ei ?eti ?eli ?eci ?eki; (case eA => k_is); (case eX => k_is); (case eS => k_is); (case eK => k_is); (case ega => k_is); (case egg => k_is); (case ecl => k_is); (case eno => k_is); (case ei => k_is); (case eti => k_is); (case eli => k_is); (case eci => k_is); (case eki => k_is))
    (case Y29 => refine' K00.mk_NotWhole KX G ?eA ?eX ?eS ?eK ?ega ?egg ?ecl ?eno ?ei ?eti ?eli ?eci ?eki; (case eA => k_is); (case eX => k_is); (case eS => k_is); (case eK => k_is); (case ega => k_is); (case egg => k_is); (case ecl => k_is); (case eno => k_is); (case ei => k_is); (case eti => k_is); (case eli => k_is); (case eci => k_is); (case eki => k_is))
    (case Y30 => refine' K00.mk_Fitless KX G ?eA ?eX ?eS ?eK ?ega ?egg ?ecl ?eno ?ei ?eti ?eli ?eci ?eki; (case eA => k_is); (case eX => k_is); (case eS => k_is); (case eK => k_is); (case ega => k_is); (case egg => k_is); (case ecl => k_is); (case eno => k_is); (case ei => k_is); (case eti => k_is); (case eli => k_is); (case eci => k_is); (case eki => k_is))
    (case Y31 => refine' K00.mk_Clash KX G ?eA ?eX ?eS ?eK ?ega ?egg ?ecl ?eno ?ei ?eti ?eli ?eci ?eki; (case eA => k_is); (case eX => k_is); (case eS => k_is); (case eK => k_is); (case ega => k_is); (case egg => k_is); (case ecl => k_is); (case eno => k_is); (case ei => k_is); (case eti => k_is); (case eli => k_is); (case eci => k_is); (case eki => k_is))
    (case Y32 => refine' K00.mk_TooMany KX G ?eA ?eX ?eS ?eK ?ega ?egg ?ecl ?eno ?ei ?eti ?eli ?eci ?eki; (case eA => k_is); (case eX => k_is); (case eS => k_is); (case eK => k_is); (case ega => k_is); (case egg => k_is); (case ecl => k_is); (case eno => k_is); (case ei => k_is); (case eti => k_is); (case eli => k_is); (case eci => k_is); (case eki => k_is))
    (case Y33 => refine' K00.mk_NoLetter KX G ?eA ?eX ?eS ?eK ?ega ?egg ?ecl ?eno ?ei ?eti ?eli ?eci ?eki; (case eA => k_is); (case eX => k_is); (case eS => k_is); (case eK => k_is); (case ega => k_is); (case egg => k_is); (case ecl => k_is); (case eno => k_is); (case ei => k_is); (case eti => k_is); (case eli => k_is); (case eci => k_is); (case eki => k_is))
    (case Y34 => refine' K00.mk_NotARoad KX G ?eA ?eX ?eS ?eK ?ega ?egg ?ecl ?eno ?eng ?ei ?eti ?eli ?eci ?eki; (case eA => k_is); (case eX => k_is); (case eS => k_is); (case eK => k_is); (case ega => k_is); (case egg => k_is); (case ecl => k_is); (case eno => k_is); (case eng => k_is); (case ei => k_is); (case eti => k_is); (case eli => k_is); (case eci => k_is); (case eki => k_is))
    (case Y35 => refine' K00.mk_Twice KX G ?eA ?eX ?eS ?eK ?ega ?egg ?ecl ?eno ?eng ?ei ?eti ?eli ?eci ?eki; (case eA => k_is); (case eX => k_is); (case eS => k_is); (case eK => k_is); (case ega => k_is); (case egg => k_is); (case ecl => k_is); (case eno => k_is); (case eng => k_is); (case ei => k_is); (case eti => k_is); (case eli => k_is); (case eci => k_is); (case eki => k_is))
    (case Y36 => refine' K00.mk_NothingUnderWay KX G ?eA ?eX ?eS ?eK ?ega ?egg ?ecl ?eno ?eng ?ei ?eti ?eli ?eci ?eki; (case eA => k_is); (case eX => k_is); (case eS => k_is); (case eK => k_is); (case ega => k_is); (case egg => k_is); (case ecl => k_is); (case eno => k_is); (case eng => k_is); (case ei => k_is); (case eti => k_is); (case eli => k_is); (case eci => k_is); (case eki => k_is))
    (case Y37 => refine' K00.mk_NotRight KX G ?eA ?eX ?eS ?eK ?ega ?egg ?ecl ?eno ?eng ?ei ?eti ?eli ?eci ?eki; (case eA => k_is); (case eX => k_is); (case eS => k_is); (case eK => k_is); (case ega => k_is); (case egg => k_is); (case ecl => k_is); (case eno => k_is); (case eng => k_is); (case ei => k_is); (case eti => k_is); (case eli => k_is); (case eci => k_is); (case eki => k_is))
    (case nd => decide +kernel)
